import PyProof.Rows.All
import Wide.All
import OpenK.AllK
import Wide.FinOn
import HandS.ForMost
import HandS.ForExc
import HandS.IsInst
import HandS.Wide
import HandS.TupAny
import HandS.Style
import PySem.Challenge.RW_arrowhouse_k10_whole_parts_of_numbers
set_option Elab.async false
set_option linter.all false
set_option maxRecDepth 100000
set_option maxHeartbeats 4000000
/-! The data layer: values as plain data, what a heap says of them, the outcome of an evaluation. -/
namespace DL
open PySem PySem.Spec PyProof.Rows L2

/-- plain data -/
inductive D where
  | non
  | bl (b : Bool)
  | int (i : Int)
  | str (x : Str)
  | tup (xs : List D)
  | lst (xs : List D)
  | dK (kvs : List (Key × D))
  | dT (kvs : List (List Key × D))
  | stt
instance : Inhabited D := ⟨.non⟩

/-- the law's state: the place, the numbers -/
structure LS where
  pos : Int
  cells : List Int
inductive Ex where
  | great (x : Str)
  | misstep (x : Str)
  | badtext (l p : Int)
inductive Out (α : Type) where
  | ok (a : α) (s : LS)
  | exc (x : Ex) (s : LS)
  | bad
abbrev M (α : Type) := LS → Out α
def M.bind {α β : Type} (m : M α) (f : α → M β) : M β := fun s => match m s with
  | .ok a s1 => f a s1
  | .exc x s1 => .exc x s1
  | .bad => .bad
def M.ret {α : Type} (a : α) : M α := fun s => .ok a s
def M.no {α : Type} : M α := fun _ => .bad
def M.opt {α : Type} : Option α → M α
  | some a => M.ret a
  | none => M.no
def M.raise {α : Type} (x : Ex) : M α := fun s => .exc x s
@[simp] theorem M.ret_ap {α : Type} (a : α) (s : LS) : M.ret a s = .ok a s := id rfl
@[simp] theorem M.opt_some {α : Type} (a : α) : M.opt (some a) = M.ret a := id rfl
@[simp] theorem M.opt_none {α : Type} : M.opt (none : Option α) = M.no := id rfl
theorem M.bind_ok {α β : Type} {m : M α} {f : α → M β} {s s1 : LS} {a : α} (h : m s = .ok a s1) : M.bind m f s = f a s1 := by unfold M.bind; rw [h]
@[simp] theorem M.bind_ret {α β : Type} (a : α) (f : α → M β) : M.bind (M.ret a) f = f a := id rfl
@[simp] theorem M.bind_no {α β : Type} (f : α → M β) : M.bind (M.no) f = M.no := id rfl
theorem M.bind_assoc {α β γ : Type} (m : M α) (f : α → M β) (g : β → M γ) : M.bind (M.bind m f) g = M.bind m fun a => M.bind (f a) g := by
  funext s; unfold M.bind; cases m s <;> rfl

/-! ### what a heap says of a value -/
abbrev AA := Option (Addr × Addr)
def NotA (A : AA) (a : Addr) : Prop := ∀ p, A = some p → a ≠ p.1 ∧ a ≠ p.2
mutual
def Rep (K : PySem.W.Frag) (A : AA) (G : Hp) : V → D → Prop
  | v, .non => v = .non
  | v, .bl b => v = .bl b
  | v, .int i => v = .int i
  | v, .str x => v = .str x
  | v, .tup ds => ∃ a xs, v = .ref a ∧ SqT K G a xs ∧ Reps K A G xs ds
  | v, .lst ds => ∃ a xs, v = .ref a ∧ G a = some (.lst xs) ∧ Reps K A G xs ds
  | v, .dK kvs => ∃ a xs, v = .ref a ∧ G a = some (.dK xs) ∧ RepK K A G xs kvs
  | v, .dT kvs => ∃ a xs, v = .ref a ∧ G a = some (.dT xs) ∧ RepT K A G xs kvs
  | v, .stt => ∃ p, A = some p ∧ v = .ref p.1
def Reps (K : PySem.W.Frag) (A : AA) (G : Hp) : List V → List D → Prop
  | xs, [] => xs = []
  | xs, d :: ds => ∃ x r, xs = x :: r ∧ Rep K A G x d ∧ Reps K A G r ds
def RepK (K : PySem.W.Frag) (A : AA) (G : Hp) : List (Key × V) → List (Key × D) → Prop
  | xs, [] => xs = []
  | xs, (k, d) :: ds => ∃ x r, xs = (k, x) :: r ∧ Rep K A G x d ∧ RepK K A G r ds
def RepT (K : PySem.W.Frag) (A : AA) (G : Hp) : List (List Key × V) → List (List Key × D) → Prop
  | xs, [] => xs = []
  | xs, (k, d) :: ds => ∃ x r, xs = (k, x) :: r ∧ Rep K A G x d ∧ RepT K A G r ds
end
section
variable {K : PySem.W.Frag} {A : AA} {G G' : Hp}
theorem Same.tupq {H H' : Hp} {a : Addr} {xs : List V} (e : Same H H') (h : SqT K H a xs) : SqT K H' a xs := by
  rcases h with (h | ⟨o, h⟩) | h
  · exact .inl (.inl (e _ _ h))
  · exact .inl (.inr ⟨o, e _ _ h⟩)
  · exact .inr h
mutual
theorem Rep.mono (g : Same G G') : ∀ (d : D) {v : V}, Rep K A G v d → Rep K A G' v d
  | .non, _, h => h
  | .bl _, _, h => h
  | .int _, _, h => h
  | .str _, _, h => h
  | .stt, _, h => h
  | .tup ds, v, h => by
    obtain ⟨a, xs, e, q, r⟩ := h
    exact ⟨a, xs, e, Same.tupq g q, Reps.mono g ds r⟩
  | .lst ds, v, h => by
    obtain ⟨a, xs, e, q, r⟩ := h
    exact ⟨a, xs, e, g _ _ q, Reps.mono g ds r⟩
  | .dK ds, v, h => by
    obtain ⟨a, xs, e, q, r⟩ := h
    exact ⟨a, xs, e, g _ _ q, RepK.mono g ds r⟩
  | .dT ds, v, h => by
    obtain ⟨a, xs, e, q, r⟩ := h
    exact ⟨a, xs, e, g _ _ q, RepT.mono g ds r⟩
theorem Reps.mono (g : Same G G') : ∀ (ds : List D) {xs : List V}, Reps K A G xs ds → Reps K A G' xs ds
  | [], _, h => h
  | d :: ds, xs, h => by
    obtain ⟨x, r, e, h1, h2⟩ := h
    exact ⟨x, r, e, Rep.mono g d h1, Reps.mono g ds h2⟩
theorem RepK.mono (g : Same G G') : ∀ (ds : List (Key × D)) {xs : List (Key × V)}, RepK K A G xs ds → RepK K A G' xs ds
  | [], _, h => h
  | (k, d) :: ds, xs, h => by
    obtain ⟨x, r, e, h1, h2⟩ := h
    exact ⟨x, r, e, Rep.mono g d h1, RepK.mono g ds h2⟩
theorem RepT.mono (g : Same G G') : ∀ (ds : List (List Key × D)) {xs : List (List Key × V)}, RepT K A G xs ds → RepT K A G' xs ds
  | [], _, h => h
  | (k, d) :: ds, xs, h => by
    obtain ⟨x, r, e, h1, h2⟩ := h
    exact ⟨x, r, e, Rep.mono g d h1, RepT.mono g ds h2⟩
end
theorem Reps.length : ∀ {ds : List D} {xs : List V}, Reps K A G xs ds → xs.length = ds.length
  | [], _, h => by cases (show _ = [] from h); rfl
  | d :: ds, xs, h => by
    obtain ⟨x, r, e, h1, h2⟩ := h
    subst e
    simp [Reps.length h2]
theorem Reps.get : ∀ {ds : List D} {xs : List V} {i : Nat} {d : D}, Reps K A G xs ds → ds[i]? = some d → ∃ x, xs[i]? = some x ∧ Rep K A G x d
  | [], _, _, _, h, e => by simp at e
  | d :: ds, xs, 0, d', h, e => by
    obtain ⟨x, r, e1, h1, h2⟩ := h
    subst e1
    simp at e
    subst e
    exact ⟨x, rfl, h1⟩
  | d :: ds, xs, i + 1, d', h, e => by
    obtain ⟨x, r, e1, h1, h2⟩ := h
    subst e1
    obtain ⟨y, h3, h4⟩ := Reps.get (i := i) h2 (by simpa using e)
    exact ⟨y, by simpa using h3, h4⟩
theorem Reps.getV : ∀ {ds : List D} {xs : List V} {i : Nat} {x : V}, Reps K A G xs ds → xs[i]? = some x → ∃ d, ds[i]? = some d ∧ Rep K A G x d
  | [], _, _, _, h, e => by cases (show _ = [] from h); simp at e
  | d :: ds, xs, 0, x', h, e => by
    obtain ⟨x, r, e1, h1, h2⟩ := h
    subst e1
    simp at e
    subst e
    exact ⟨d, rfl, h1⟩
  | d :: ds, xs, i + 1, x', h, e => by
    obtain ⟨x, r, e1, h1, h2⟩ := h
    subst e1
    obtain ⟨y, h3, h4⟩ := Reps.getV (i := i) h2 (by simpa using e)
    exact ⟨y, by simpa using h3, h4⟩
theorem Reps.append : ∀ {ds es : List D} {xs ys : List V}, Reps K A G xs ds → Reps K A G ys es → Reps K A G (xs ++ ys) (ds ++ es)
  | [], _, _, _, h, k => by cases (show _ = [] from h); exact k
  | d :: ds, es, xs, ys, h, k => by
    obtain ⟨x, r, e, h1, h2⟩ := h
    subst e
    exact ⟨x, r ++ ys, rfl, h1, Reps.append h2 k⟩
theorem Reps.nil : Reps K A G [] [] := rfl
theorem Reps.cons {x : V} {d : D} {xs : List V} {ds : List D} (h : Rep K A G x d) (t : Reps K A G xs ds) : Reps K A G (x :: xs) (d :: ds) := ⟨x, xs, rfl, h, t⟩
theorem Reps.drop : ∀ {ds : List D} {xs : List V} (n : Nat), Reps K A G xs ds → Reps K A G (xs.drop n) (ds.drop n)
  | _, _, 0, h => h
  | [], _, _ + 1, h => by cases (show _ = [] from h); exact rfl
  | d :: ds, xs, n + 1, h => by
    obtain ⟨x, r, e, h1, h2⟩ := h
    subst e
    exact Reps.drop n h2
theorem Reps.take : ∀ {ds : List D} {xs : List V} (n : Nat), Reps K A G xs ds → Reps K A G (xs.take n) (ds.take n)
  | _, _, 0, h => rfl
  | [], _, _ + 1, h => by cases (show _ = [] from h); exact rfl
  | d :: ds, xs, n + 1, h => by
    obtain ⟨x, r, e, h1, h2⟩ := h
    subst e
    exact ⟨x, r.take n, rfl, h1, Reps.take n h2⟩
theorem Reps.set : ∀ {ds : List D} {xs : List V} (n : Nat) {x : V} {d : D}, Reps K A G xs ds → Rep K A G x d → Reps K A G (xs.set n x) (ds.set n d)
  | [], _, _, _, _, h, _ => by cases (show _ = [] from h); exact rfl
  | d :: ds, xs, 0, y, e', h, k => by
    obtain ⟨x, r, e, h1, h2⟩ := h
    subst e
    exact ⟨y, r, rfl, k, h2⟩
  | d :: ds, xs, n + 1, y, e', h, k => by
    obtain ⟨x, r, e, h1, h2⟩ := h
    subst e
    exact ⟨x, r.set n y, rfl, h1, Reps.set n h2 k⟩
theorem Reps.flatRep {ds : List D} {xs : List V} (h : Reps K A G xs ds) : ∀ n, Reps K A G (List.replicate n xs).flatten (List.replicate n ds).flatten
  | 0 => rfl
  | n + 1 => by
    rw [List.replicate_succ, List.replicate_succ, List.flatten_cons, List.flatten_cons]
    exact Reps.append h (Reps.flatRep h n)
theorem Reps.dropLast : ∀ {ds : List D} {xs : List V}, Reps K A G xs ds → Reps K A G xs.dropLast ds.dropLast := fun {ds xs} h => by
  rw [List.dropLast_eq_take, List.dropLast_eq_take, h.length]
  exact h.take _
theorem Reps.ints : ∀ {ns : List Int} {xs : List V}, Reps K A G xs (ns.map D.int) → xs = ns.map V.int
  | [], _, h => h
  | n :: ns, xs, h => by
    obtain ⟨x, r, e, h1, h2⟩ := h
    subst e
    cases (show x = _ from h1)
    rw [Reps.ints h2]
    rfl
theorem Reps.of_ints : ∀ (ns : List Int), Reps K A G (ns.map V.int) (ns.map D.int)
  | [] => rfl
  | n :: ns => ⟨_, _, rfl, rfl, Reps.of_ints ns⟩
theorem Reps.bls : ∀ {ns : List Bool} {xs : List V}, Reps K A G xs (ns.map D.bl) → xs = ns.map V.bl
  | [], _, h => h
  | n :: ns, xs, h => by
    obtain ⟨x, r, e, h1, h2⟩ := h
    subst e
    cases (show x = _ from h1)
    rw [Reps.bls h2]
    rfl
end

/-! ### slots -/
inductive Slot where
  | un
  | sh (d : D)
  | ow (ds : List D)
  | owK (kvs : List (Key × D))
  | owT (kvs : List (List Key × D))
abbrev Env := List Slot
def Slot.own : Slot → Bool
  | .un => false
  | .sh _ => false
  | _ => true
/-- the heap from H, G on: what stood stands (but the state), the frozen part grows by new objects alone -/
structure Ext (A : AA) (H G H' G' : Hp) : Prop where
  g : Same G G'
  h : ∀ a o, H a = some o → NotA A a → H' a = some o
  n : ∀ a, H a ≠ none → G' a = G a
  t : ∀ a, H a ≠ none → H' a ≠ none
theorem Ext.refl {A : AA} {H G : Hp} : Ext A H G H G := ⟨.refl G, fun _ _ e _ => e, fun _ _ => rfl, fun _ h => h⟩
theorem Ext.trans {A : AA} {H G H1 G1 H2 G2 : Hp} (a : Ext A H G H1 G1) (b : Ext A H1 G1 H2 G2) : Ext A H G H2 G2 :=
  ⟨a.g.trans b.g, fun c o e n => b.h c o (a.h c o e n) n, fun c e => (b.n c (a.t c e)).trans (a.n c e), fun c e => b.t c (a.t c e)⟩
def StOk (A : AA) (H G : Hp) (s : LS) : Prop := ∀ p, A = some p → p.1 ≠ p.2 ∧ G p.1 = none ∧ G p.2 = none ∧ H p.1 = some (.lst [.int s.pos, .ref p.2]) ∧ H p.2 = some (.lst (s.cells.map V.int))
def SlotR (K : PySem.W.Frag) (A : AA) (H0 H G : Hp) (o : Option (Option V)) : Slot → Prop
  | .un => True
  | .sh d => ∃ v, o = some (some v) ∧ Rep K A G v d
  | .ow ds => ∃ a xs, o = some (some (.ref a)) ∧ H a = some (.lst xs) ∧ G a = none ∧ H0 a = none ∧ NotA A a ∧ Reps K A G xs ds
  | .owK ds => ∃ a xs, o = some (some (.ref a)) ∧ H a = some (.dK xs) ∧ G a = none ∧ H0 a = none ∧ NotA A a ∧ RepK K A G xs ds
  | .owT ds => ∃ a xs, o = some (some (.ref a)) ∧ H a = some (.dT xs) ∧ G a = none ∧ H0 a = none ∧ NotA A a ∧ RepT K A G xs ds
def slot (en : Env) (i : Nat) : Slot := (en[i]?).getD .un
structure Mt (K : PySem.W.Frag) (A : AA) (H0 G0 : Hp) (σ : L2.St) (en : Env) (H G : Hp) (s : LS) : Prop where
  len : σ.length = en.length
  sl : ∀ i, SlotR K A H0 H G σ[i]? (slot en i)
  dist : ∀ i j, i ≠ j → (slot en i).own = true → (slot en j).own = true → σ[i]? ≠ σ[j]?
  sub : Same G H
  ext : Ext A H0 G0 H G
  st : StOk A H G s
section
variable {K : PySem.W.Frag} {A : AA} {H0 G0 H G H' G' : Hp} {σ σ' : L2.St} {en en' : Env} {s s' : LS}
theorem Mt.a0 (m : Mt K A H0 G0 σ en H G s) {a : Addr} (h : H a = none) : H0 a = none := by
  cases e : H0 a with
  | none => rfl
  | some o => exact absurd h (m.ext.t a (by rw [e]; exact Option.some_ne_none o))
theorem Mt.g0 (m : Mt K A H0 G0 σ en H G s) {a : Addr} (h : H a = none) : G a = none := m.sub.free h
theorem Mt.nA (m : Mt K A H0 G0 σ en H G s) {a : Addr} (h : H a = none) : NotA A a := fun p e => by
  obtain ⟨_, _, _, h1, h2⟩ := m.st p e
  refine ⟨fun z => ?_, fun z => ?_⟩
  · rw [← z, h] at h1; cases h1
  · rw [← z, h] at h2; cases h2
theorem SlotR.ext {o : Option (Option V)} {x : Slot} (r : SlotR K A H0 H G o x) (e : Ext A H G H' G') : SlotR K A H0 H' G' o x := by
  cases x with
  | un => exact r
  | sh d =>
    obtain ⟨v, h1, h2⟩ := r
    exact ⟨v, h1, Rep.mono e.g d h2⟩
  | ow ds =>
    obtain ⟨a, xs, h1, h2, h3, h4, h5, h6⟩ := r
    exact ⟨a, xs, h1, e.h a _ h2 h5, (e.n a (by rw [h2]; exact Option.some_ne_none _)).trans h3, h4, h5, Reps.mono e.g ds h6⟩
  | owK ds =>
    obtain ⟨a, xs, h1, h2, h3, h4, h5, h6⟩ := r
    exact ⟨a, xs, h1, e.h a _ h2 h5, (e.n a (by rw [h2]; exact Option.some_ne_none _)).trans h3, h4, h5, RepK.mono e.g ds h6⟩
  | owT ds =>
    obtain ⟨a, xs, h1, h2, h3, h4, h5, h6⟩ := r
    exact ⟨a, xs, h1, e.h a _ h2 h5, (e.n a (by rw [h2]; exact Option.some_ne_none _)).trans h3, h4, h5, RepT.mono e.g ds h6⟩
/-- the world goes on -/
theorem Mt.go (m : Mt K A H0 G0 σ en H G s) (e : Ext A H G H' G') (sub : Same G' H') (st : StOk A H' G' s') : Mt K A H0 G0 σ en H' G' s' :=
  ⟨m.len, fun i => (m.sl i).ext e, m.dist, sub, m.ext.trans e, st⟩
theorem Same.upd {H : Hp} {p : Addr} {o : HO} (h : H p = none) : Same H (upd H p o) := fun b x e => by
  rw [upd_ne (ne_of_none e h)]
  exact e
theorem StOk.upd {p : Addr} {o : HO} (st : StOk A H G s) (n : NotA A p) : StOk A (upd H p o) G s := fun q e => by
  obtain ⟨h0, h1, h2, h3, h4⟩ := st q e
  obtain ⟨n1, n2⟩ := n q e
  exact ⟨h0, h1, h2, by rw [upd_ne (Ne.symm n1)]; exact h3, by rw [upd_ne (Ne.symm n2)]; exact h4⟩
theorem StOk.updG {p : Addr} {o : HO} (st : StOk A H G s) (n : NotA A p) : StOk A H (L2.upd G p o) s := fun q e => by
  obtain ⟨h0, h1, h2, h3, h4⟩ := st q e
  obtain ⟨n1, n2⟩ := n q e
  exact ⟨h0, by rw [upd_ne (Ne.symm n1)]; exact h1, by rw [upd_ne (Ne.symm n2)]; exact h2, h3, h4⟩
/-- a new object, frozen at once -/
theorem Mt.newF (m : Mt K A H0 G0 σ en H G s) {p : Addr} {o : HO} (h : H p = none) : Mt K A H0 G0 σ en (upd H p o) (upd G p o) s ∧ Ext A H G (upd H p o) (upd G p o) := by
  have e : Ext A H G (upd H p o) (upd G p o) := ⟨Same.upd (m.g0 h), fun a u q _ => by rw [upd_ne (ne_of_none q h)]; exact q, fun a q => by rw [upd_ne (fun z => q (by rw [z, h]))], fun a q => by
    rw [upd_ne (fun z => q (by rw [z, h]))]; exact q⟩
  refine ⟨m.go e (fun b x q => ?_) ((m.st.upd (m.nA h)).updG (m.nA h)), e⟩
  by_cases hb : b = p
  · subst hb
    rw [upd_same] at q ⊢
    exact q
  · rw [upd_ne hb] at q ⊢
    exact m.sub b x q
/-- a new object, not frozen -/
theorem Mt.newU (m : Mt K A H0 G0 σ en H G s) {p : Addr} {o : HO} (h : H p = none) : Mt K A H0 G0 σ en (upd H p o) G s ∧ Ext A H G (upd H p o) G := by
  have e : Ext A H G (upd H p o) G := ⟨.refl G, fun a u q _ => by rw [upd_ne (ne_of_none q h)]; exact q, fun a q => rfl, fun a q => by
    rw [upd_ne (fun z => q (by rw [z, h]))]; exact q⟩
  exact ⟨m.go e (m.sub.trans (Same.upd h)) (m.st.upd (m.nA h)), e⟩
end

/-! ### outcomes -/
/-- how an exception of ours lies in the heap -/
def ExAt (mg : Str → Option Value) (H : Hp) (cls : Value) (oe : Option Addr) : Ex → Prop
  | .great x => ∃ C d, cls = .ref C ∧ mg "Great" = some (.ref C) ∧ oe = some d ∧ H d = some (.xd [("limit", .str x)])
  | .misstep x => ∃ C d, cls = .ref C ∧ mg "Misstep" = some (.ref C) ∧ oe = some d ∧ H d = some (.xd [("word", .str x)])
  | .badtext l p => ∃ C d, cls = .ref C ∧ mg "BadText" = some (.ref C) ∧ oe = some d ∧ H d = some (.xd [("line", .int l), ("place", .int p)])
/-- an outcome, within a statement -/
def Og (K : PySem.W.Frag) (mg : Str → Option Value) (E : XK) (A : AA) (H0 G0 : Hp) (σ : L2.St) (en : Env) (H G : Hp) {α : Type} (o : Out α) (Q : α → LS → Hp → Hp → Prop) : Prop := match o with
  | .ok a s' => ∀ H' G', Mt K A H0 G0 σ en H' G' s' → Ext A H G H' G' → Q a s' H' G'
  | .exc x s' => ∀ H' G' cls oe, Ext A H0 G0 H' G' → Same G' H' → StOk A H' G' s' → ExAt mg H' cls oe x → E cls oe H'
  | .bad => False
section
variable {K : PySem.W.Frag} {mg : Str → Option Value} {E : XK} {A : AA} {H0 G0 H G H1 G1 : Hp} {σ : L2.St} {en : Env} {s s1 : LS} {α β : Type}
theorem Og.mono {o : Out α} {Q Q' : α → LS → Hp → Hp → Prop} (h : Og K mg E A H0 G0 σ en H G o Q) (k : ∀ a s' H' G', Mt K A H0 G0 σ en H' G' s' → Ext A H G H' G' → Q a s' H' G' → Q' a s' H' G') : Og K mg E A H0 G0 σ en H G o Q' := by
  cases o with
  | ok a s' => exact fun H' G' m e => k a s' H' G' m e (h H' G' m e)
  | exc x s' => exact h
  | bad => exact h
theorem Og.go {o : Out α} {Q : α → LS → Hp → Hp → Prop} (h : Og K mg E A H0 G0 σ en H G o Q) (e : Ext A H G H1 G1) : Og K mg E A H0 G0 σ en H1 G1 o Q := by
  cases o with
  | ok a s' => exact fun H' G' m e' => h H' G' m (e.trans e')
  | exc x s' => exact h
  | bad => exact h
theorem Og.bind {m : M α} {f : α → M β} {Q : β → LS → Hp → Hp → Prop} (h : Og K mg E A H0 G0 σ en H G (M.bind m f s) Q) : Og K mg E A H0 G0 σ en H G (m s) fun a s' H' G' => Og K mg E A H0 G0 σ en H' G' (f a s') Q := by
  unfold M.bind at h
  cases e : m s with
  | ok a s' =>
    rw [e] at h
    exact fun H' G' mt ex => Og.go h ex
  | exc x s' =>
    rw [e] at h
    exact h
  | bad =>
    rw [e] at h
    exact h
theorem Og.ret {a : α} {Q : α → LS → Hp → Hp → Prop} (m : Mt K A H0 G0 σ en H G s) (h : Og K mg E A H0 G0 σ en H G (M.ret a s) Q) : Q a s H G := h H G m .refl
end
end DL

set_option Elab.async false
set_option linter.all false
set_option maxRecDepth 100000
set_option maxHeartbeats 4000000
/-! Readings of expressions by data. -/
namespace DL
open PySem PySem.Spec PyProof.Rows L2

abbrev EV := Env → M D
abbrev TV := Env → M Bool
/-- as it stands now: a list or dict that may still be changed, or frozen data -/
def Now (K : PySem.W.Frag) (A : AA) (H G : Hp) (v : V) : D → Prop
  | .lst ds => ∃ a xs, v = .ref a ∧ H a = some (.lst xs) ∧ Reps K A G xs ds
  | .dK ds => ∃ a xs, v = .ref a ∧ H a = some (.dK xs) ∧ RepK K A G xs ds
  | .dT ds => ∃ a xs, v = .ref a ∧ H a = some (.dT xs) ∧ RepT K A G xs ds
  | d => Rep K A G v d
def NowS (K : PySem.W.Frag) (A : AA) (H0 G0 : Hp) (σ : L2.St) (en : Env) (H G : Hp) (v : V) (d : D) : Prop :=
  ∀ H2 G2 s2, Mt K A H0 G0 σ en H2 G2 s2 → Ext A H G H2 G2 → Now K A H2 G2 v d
section
variable {K : PySem.W.Frag} {mg : Str → Option Value} {E : XK} {A : AA} {H0 G0 H G H1 G1 : Hp} {σ : L2.St} {en : Env} {s s1 : LS} {v : V} {d : D}
theorem Rep.now (r : Rep K A G v d) (h : Same G H) : Now K A H G v d := by
  cases d with
  | lst ds =>
    obtain ⟨a, xs, e, q, r⟩ := r
    exact ⟨a, xs, e, h _ _ q, r⟩
  | dK ds =>
    obtain ⟨a, xs, e, q, r⟩ := r
    exact ⟨a, xs, e, h _ _ q, r⟩
  | dT ds =>
    obtain ⟨a, xs, e, q, r⟩ := r
    exact ⟨a, xs, e, h _ _ q, r⟩
  | _ => exact r
theorem Rep.nowS (r : Rep K A G v d) : NowS K A H0 G0 σ en H G v d := fun H2 G2 s2 m e => (Rep.mono e.g d r).now m.sub
theorem NowS.go (r : NowS K A H0 G0 σ en H G v d) (e : Ext A H G H1 G1) : NowS K A H0 G0 σ en H1 G1 v d := fun H2 G2 s2 m e2 => r H2 G2 s2 m (e.trans e2)
theorem NowS.now (r : NowS K A H0 G0 σ en H G v d) (m : Mt K A H0 G0 σ en H G s) : Now K A H G v d := r H G s m .refl
end

/-! ### the readings -/
def RE (K : PySem.W.Frag) (mg : Str → Option Value) (E : XK) (ev : EV) : TE := fun σ H Q => ∃ A H0 G0 en G s, Mt K A H0 G0 σ en H G s ∧ Og K mg E A H0 G0 σ en H G (ev en s) fun d _ H' G' => ∀ v, Rep K A G' v d → Q v H'
def RB (K : PySem.W.Frag) (mg : Str → Option Value) (E : XK) (ev : EV) : TE := fun σ H Q => ∃ A H0 G0 en G s, Mt K A H0 G0 σ en H G s ∧ Og K mg E A H0 G0 σ en H G (ev en s) fun d _ H' G' => ∀ v, NowS K A H0 G0 σ en H' G' v d → Q v H'
/-- a new one that is not yet frozen -/
def FrO (K : PySem.W.Frag) (A : AA) (H G : Hp) (p : Addr) : D → Prop
  | .lst ds => G p = none ∧ ∃ xs, H p = some (.lst xs) ∧ Reps K A G xs ds
  | .dK ds => G p = none ∧ ∃ xs, H p = some (.dK xs) ∧ RepK K A G xs ds
  | .dT ds => G p = none ∧ ∃ xs, H p = some (.dT xs) ∧ RepT K A G xs ds
  | _ => False
def RF (K : PySem.W.Frag) (mg : Str → Option Value) (E : XK) (ev : EV) : TE := fun σ H Q => ∃ A H0 G0 en G s, Mt K A H0 G0 σ en H G s ∧ Og K mg E A H0 G0 σ en H G (ev en s) fun d _ H' G' => ∀ p, H p = none → FrO K A H' G' p d → Q (.ref p) H'
def RT (K : PySem.W.Frag) (mg : Str → Option Value) (E : XK) (tv : TV) : TT := fun σ H Q => ∃ A H0 G0 en G s, Mt K A H0 G0 σ en H G s ∧ Og K mg E A H0 G0 σ en H G (tv en s) fun b _ H' G' => Q b H'
def NowSs (K : PySem.W.Frag) (A : AA) (H0 G0 : Hp) (σ : L2.St) (en : Env) (H G : Hp) : List V → List D → Prop
  | xs, [] => xs = []
  | xs, d :: ds => ∃ x r, xs = x :: r ∧ NowS K A H0 G0 σ en H G x d ∧ NowSs K A H0 G0 σ en H G r ds
abbrev AV := Env → M (List D)
/-- arguments: frozen; as they stand -/
def RA (K : PySem.W.Frag) (mg : Str → Option Value) (E : XK) (ev : AV) : TA := fun σ H Q => ∃ A H0 G0 en G s, Mt K A H0 G0 σ en H G s ∧ Og K mg E A H0 G0 σ en H G (ev en s) fun ds _ H' G' => ∀ vs, Reps K A G' vs ds → Q vs H'
def RAB (K : PySem.W.Frag) (mg : Str → Option Value) (E : XK) (ev : AV) : TA := fun σ H Q => ∃ A H0 G0 en G s, Mt K A H0 G0 σ en H G s ∧ Og K mg E A H0 G0 σ en H G (ev en s) fun ds _ H' G' => ∀ vs, NowSs K A H0 G0 σ en H' G' vs ds → Q vs H'

theorem pe_imp {X : Cx} {e : Expr} {t t' : TE} (h : PE X e t) (i : ∀ σ H Q, t' σ H Q → t σ H Q) : PE X e t' := ⟨fun pins s σ H Q I q => h.run pins s σ H Q I (i _ _ _ q)⟩
theorem pt_imp {X : Cx} {e : Expr} {t t' : TT} (h : PT X e t) (i : ∀ σ H Q, t' σ H Q → t σ H Q) : PT X e t' := ⟨fun pins s σ H Q I q => h.run pins s σ H Q I (i _ _ _ q)⟩
theorem pw_imp {X : Cx} {e : Expr} {t t' : TT} (h : PW X e t) (i : ∀ σ H Q, t' σ H Q → t σ H Q) : PW X e t' := ⟨fun w pins s σ H Q I q => h.run w pins s σ H Q I (i _ _ _ q)⟩
theorem pa_imp {X : Cx} {e : List Expr} {t t' : TA} (h : PA X e t) (i : ∀ σ H Q, t' σ H Q → t σ H Q) : PA X e t' := ⟨fun pos pins s σ H Q I q => h.run pos pins s σ H Q I (i _ _ _ q)⟩

structure PD (X : Cx) (E : XK) (e : Expr) (ev : EV) : Prop where
  p : PE X e (RE X.K X.mg E ev)
structure PB (X : Cx) (E : XK) (e : Expr) (ev : EV) : Prop where
  p : PE X e (RB X.K X.mg E ev)
structure PF (X : Cx) (E : XK) (e : Expr) (ev : EV) : Prop where
  p : PE X e (RF X.K X.mg E ev)
structure PTD (X : Cx) (E : XK) (e : Expr) (tv : TV) : Prop where
  p : PT X e (RT X.K X.mg E tv)
structure PWD (X : Cx) (E : XK) (e : Expr) (tv : TV) : Prop where
  p : PW X e (RT X.K X.mg E tv)
structure PAD (X : Cx) (E : XK) (e : List Expr) (tv : AV) : Prop where
  p : PA X e (RA X.K X.mg E tv)
structure PAB (X : Cx) (E : XK) (e : List Expr) (tv : AV) : Prop where
  p : PA X e (RAB X.K X.mg E tv)

section
variable {X : Cx} {E : XK} {e a b c : Expr} {ev eva evb evc : EV} {tv tva tvb : TV} {pos : Pos}
theorem PD.bo (h : PD X E e ev) : PB X E e ev := ⟨pe_imp h.p fun σ H Q ⟨A, H0, G0, en, G, s, m, o⟩ => ⟨A, H0, G0, en, G, s, m, o.mono fun d s' H' G' _ _ q v r => q v r.nowS⟩⟩
/-- freeze -/
theorem frz_ok {K : PySem.W.Frag} {A : AA} {H0 G0 H G H' G' : Hp} {σ : L2.St} {en : Env} {s s' : LS} {p : Addr} {o : HO} (m : Mt K A H0 G0 σ en H G s) (hp : H p = none) (m' : Mt K A H0 G0 σ en H' G' s') (e : Ext A H G H' G') (h : H' p = some o) (hg : G' p = none) :
    Mt K A H0 G0 σ en H' (upd G' p o) s' ∧ Ext A H G H' (upd G' p o) := by
  have ex : Ext A H G H' (upd G' p o) := ⟨e.g.trans (Same.upd hg), e.h, fun a q => by
    rw [upd_ne (fun z => q (by rw [z, hp]))]
    exact e.n a q, e.t⟩
  refine ⟨m.go ex (fun c x q => ?_) (m'.st.updG (m.nA hp)), ex⟩
  by_cases hc : c = p
  · subst hc
    rw [upd_same] at q
    cases q
    exact h
  · rw [upd_ne hc] at q
    exact m'.sub c x q
theorem FrO.frz {K : PySem.W.Frag} {A : AA} {H G : Hp} {p : Addr} {d : D} (r : FrO K A H G p d) : ∃ o, H p = some o ∧ G p = none ∧ Rep K A (upd G p o) (.ref p) d := by
  cases d with
  | lst ds =>
    obtain ⟨h1, xs, h2, h3⟩ := r
    exact ⟨_, h2, h1, p, xs, rfl, upd_same, Reps.mono (Same.upd h1) ds h3⟩
  | dK ds =>
    obtain ⟨h1, xs, h2, h3⟩ := r
    exact ⟨_, h2, h1, p, xs, rfl, upd_same, RepK.mono (Same.upd h1) ds h3⟩
  | dT ds =>
    obtain ⟨h1, xs, h2, h3⟩ := r
    exact ⟨_, h2, h1, p, xs, rfl, upd_same, RepT.mono (Same.upd h1) ds h3⟩
  | _ => exact r.elim
theorem PF.d (h : PF X E e ev) : PD X E e ev := by
  refine ⟨pe_imp h.p fun σ H Q ⟨A, H0, G0, en, G, s, m, o⟩ => ⟨A, H0, G0, en, G, s, m, ?_⟩⟩
  cases q : ev en s with
  | ok d s' =>
    rw [q] at o
    intro H' G' m' e p hp r
    obtain ⟨ob, h1, h2, h3⟩ := r.frz
    obtain ⟨m2, e2⟩ := frz_ok m hp m' e h1 h2
    exact o H' _ m2 e2 _ h3
  | exc x s' =>
    rw [q] at o
    exact o
  | bad =>
    rw [q] at o
    exact o
theorem PF.bo (h : PF X E e ev) : PB X E e ev := h.d.bo

/-! ### names, constants -/
def eC (d : D) : EV := fun _ => M.ret d
def eVar (i : Nat) : EV := fun en => match slot en i with
  | .sh d => M.ret d
  | _ => M.no
def eBor (i : Nat) : EV := fun en => match slot en i with
  | .sh d => M.ret d
  | .ow ds => M.ret (.lst ds)
  | .owK ds => M.ret (.dK ds)
  | .owT ds => M.ret (.dT ds)
  | .un => M.no
theorem re_c {d : D} {v : V} (hr : ∀ K A G, Rep K A G v d) {K mg E} {σ : L2.St} {H : Hp} {Q : VK} (h : RE K mg E (eC d) σ H Q) : Q v H := by
  obtain ⟨A, H0, G0, en, G, s, m, o⟩ := h
  exact o H G m .refl _ (hr _ _ _)
theorem pd_int {i : Int} {j : Nat} : PD X E (.Constant (.int i) j pos) (eC (.int i)) := ⟨pe_imp pe_int fun _ _ _ h => re_c (d := .int i) (v := .int i) (fun _ _ _ => rfl) h⟩
theorem pd_bl {i : Bool} {j : Nat} : PD X E (.Constant (.bool i) j pos) (eC (.bl i)) := ⟨pe_imp pe_bl fun _ _ _ h => re_c (d := .bl i) (v := .bl i) (fun _ _ _ => rfl) h⟩
theorem pd_non {j : Nat} : PD X E (.Constant .none j pos) (eC .non) := ⟨pe_imp pe_non fun _ _ _ h => re_c (d := .non) (v := .non) (fun _ _ _ => rfl) h⟩
theorem pd_str {i : Str} {j : Nat} : PD X E (.Constant (.str i) j pos) (eC (.str i)) := ⟨pe_imp pe_str fun _ _ _ h => re_c (d := .str i) (v := .str i) (fun _ _ _ => rfl) h⟩
/-- a module's int -/
theorem pd_gint {x : Str} {i : Int} {t : Tok} (hg : Gl X x) (hm : X.mg x = some (.int i t)) (hd : (x == ("__debug__" : Str)) = false := by decide) : PD X E (.Name x pos) (eC (.int i)) := ⟨pe_imp (pe_glob (v := .int i) hg hm ⟨t, rfl⟩ hd) fun _ _ _ h => re_c (d := .int i) (v := .int i) (fun _ _ _ => rfl) h⟩
theorem pd_var {i : Nat} (h : PE X e (tVar i)) : PD X E e (eVar i) := by
  refine ⟨pe_imp h fun σ H Q ⟨A, H0, G0, en, G, s, m, o⟩ => ?_⟩
  have z := m.sl i
  unfold eVar at o
  cases q : slot en i with
  | sh d =>
    rw [q] at o z
    obtain ⟨v, h1, h2⟩ := z
    exact ⟨v, h1, o H G m .refl _ h2⟩
  | _ => rw [q] at o; exact o.elim
theorem pb_var {i : Nat} (h : PE X e (tVar i)) : PB X E e (eBor i) := by
  refine ⟨pe_imp h fun σ H Q ⟨A, H0, G0, en, G, s, m, o⟩ => ?_⟩
  have z := m.sl i
  unfold eBor at o
  cases q : slot en i with
  | un => rw [q] at o; exact o.elim
  | sh d =>
    rw [q] at o z
    obtain ⟨v, h1, h2⟩ := z
    exact ⟨v, h1, o H G m .refl _ h2.nowS⟩
  | ow d =>
    rw [q] at o z
    obtain ⟨p, xs, h1, _⟩ := z
    refine ⟨.ref p, h1, o H G m .refl _ fun H2 G2 s2 m2 e2 => ?_⟩
    have z := m2.sl i
    rw [q] at z
    obtain ⟨p', xs', h1', h2', _, _, _, h6⟩ := z
    rw [h1] at h1'
    cases h1'
    exact ⟨p, xs', rfl, h2', h6⟩
  | owK d =>
    rw [q] at o z
    obtain ⟨p, xs, h1, _⟩ := z
    refine ⟨.ref p, h1, o H G m .refl _ fun H2 G2 s2 m2 e2 => ?_⟩
    have z := m2.sl i
    rw [q] at z
    obtain ⟨p', xs', h1', h2', _, _, _, h6⟩ := z
    rw [h1] at h1'
    cases h1'
    exact ⟨p, xs', rfl, h2', h6⟩
  | owT d =>
    rw [q] at o z
    obtain ⟨p, xs, h1, _⟩ := z
    refine ⟨.ref p, h1, o H G m .refl _ fun H2 G2 s2 m2 e2 => ?_⟩
    have z := m2.sl i
    rw [q] at z
    obtain ⟨p', xs', h1', h2', _, _, _, h6⟩ := z
    rw [h1] at h1'
    cases h1'
    exact ⟨p, xs', rfl, h2', h6⟩

/-! ### operators -/
/-- a rule by values does what f says of data -/
def OpD (K : PySem.W.Frag) (mg : Str → Option Value) (E : XK) (r : R2) (f : D → D → M D) : Prop :=
  ∀ (A : AA) (H0 G0 : Hp) (σ : L2.St) (en : Env) (H G : Hp) (s : LS) (x y : V) (dx dy : D) (Q : VK), Mt K A H0 G0 σ en H G s → Now K A H G x dx → Now K A H G y dy →
    Og K mg E A H0 G0 σ en H G (f dx dy s) (fun d _ H' G' => ∀ v, Rep K A G' v d → Q v H') → r x y H Q
def eBin (f : D → D → M D) (eva evb : EV) : EV := fun en => M.bind (eva en) fun x => M.bind (evb en) fun y => f x y
theorem re_bin {K mg E} {r : R2} {f : D → D → M D} (hf : OpD K mg E r f) {σ : L2.St} {H : Hp} {Q : VK} (h : RE K mg E (eBin f eva evb) σ H Q) : tOp r (RB K mg E eva) (RB K mg E evb) σ H Q := by
  obtain ⟨A, H0, G0, en, G, s, m, o⟩ := h
  refine ⟨A, H0, G0, en, G, s, m, (Og.bind o).mono fun dx s1 H1 G1 m1 e1 o1 x nx => ?_⟩
  refine ⟨A, H0, G0, en, G1, s1, m1, (Og.bind o1).mono fun dy s2 H2 G2 m2 e2 o2 y ny => ?_⟩
  exact hf A H0 G0 σ en H2 G2 s2 x y dx dy Q m2 ((nx.go e2).now m2) (ny.now m2) o2
theorem pd_bin {op : Operator} {r : R2} {f : D → D → M D} (ho : OpR X (binaryOp op) r) (hf : OpD X.K X.mg E r f) (ha : PB X E a eva) (hb : PB X E b evb) : PD X E (.BinOp a op b pos) (eBin f eva evb) :=
  ⟨pe_imp (pe_op ho ha.p hb.p) fun _ _ _ h => re_bin hf h⟩
theorem pd_cmp {op : CmpOp} {r : R2} {f : D → D → M D} (ho : OpR X (compareOp op) r) (hf : OpD X.K X.mg E r f) (ha : PB X E a eva) (hb : PB X E b evb) (hm : behindInMarks op b = false) : PD X E (.Compare a [op] [b] pos) (eBin f eva evb) :=
  ⟨pe_imp (pe_cmpR ho ha.p hb.p hm) fun _ _ _ h => re_bin hf h⟩
/-- the truth of what is a bool -/
def eT (ev : EV) : TV := fun en => M.bind (ev en) fun d => match d with
  | .bl b => M.ret b
  | _ => M.no
theorem rt_e {K mg E} {σ : L2.St} {H : Hp} {Q : Bool → Hp → Prop} (h : RT K mg E (eT ev) σ H Q) : RE K mg E ev σ H fun x H' => ∃ k, x = .bl k ∧ Q k H' := by
  obtain ⟨A, H0, G0, en, G, s, m, o⟩ := h
  refine ⟨A, H0, G0, en, G, s, m, (Og.bind o).mono fun d s1 H1 G1 m1 e1 o1 v r => ?_⟩
  cases d with
  | bl k => exact ⟨k, r, o1 H1 G1 m1 .refl⟩
  | _ => exact o1.elim
theorem pt_cmpD {op : CmpOp} {r : R2} {f : D → D → M D} (ho : OpR X (compareOp op) r) (hf : OpD X.K X.mg E r f) (ha : PB X E a eva) (hb : PB X E b evb) (hm : behindInMarks op b = false) : PTD X E (.Compare a [op] [b] pos) (eT (eBin f eva evb)) :=
  ⟨pt_imp (pt_cmpR ho ha.p hb.p hm) fun _ _ _ h => re_bin hf (rt_e h)⟩
theorem pt_of (h : PD X E e ev) (he : ∀ whole, isTrue e X.env whole = (do let v ← whole; standAt e.pos; holding [v] (truthy v)) := by intro _; rfl) : PTD X E e (eT ev) := ⟨pt_imp (pt_val h.p he) fun _ _ _ h => rt_e h⟩
/-- two comparisons in a row -/
def eChain (f g : D → D → M D) (eva evb evc : EV) : EV := fun en => M.bind (eva en) fun x => M.bind (evb en) fun y => M.bind (f x y) fun z => match z with
  | .bl true => M.bind (evc en) fun w => g y w
  | .bl false => M.ret (.bl false)
  | _ => M.no
theorem re_chain {K mg E} {r r' : R2} {f g : D → D → M D} (hf : OpD K mg E r f) (hg : OpD K mg E r' g) {σ : L2.St} {H : Hp} {Q : VK} (h : RE K mg E (eChain f g eva evb evc) σ H Q) : tChain r r' (RB K mg E eva) (RB K mg E evb) (RB K mg E evc) σ H Q := by
  obtain ⟨A, H0, G0, en, G, s, m, o⟩ := h
  refine ⟨A, H0, G0, en, G, s, m, (Og.bind o).mono fun dx s1 H1 G1 m1 e1 o1 x nx => ?_⟩
  refine ⟨A, H0, G0, en, G1, s1, m1, (Og.bind o1).mono fun dy s2 H2 G2 m2 e2 o2 y ny => ?_⟩
  refine hf A H0 G0 σ en H2 G2 s2 x y dx dy _ m2 ((nx.go e2).now m2) (ny.now m2) ((Og.bind o2).mono fun z s3 H3 G3 m3 e3 o3 v rv => ?_)
  cases z with
  | bl k =>
    refine ⟨k, rv, ?_⟩
    cases k with
    | false => exact o3 H3 G3 m3 .refl _ rfl
    | true =>
      refine ⟨A, H0, G0, en, G3, s3, m3, (Og.bind o3).mono fun dw s4 H4 G4 m4 e4 o4 w nw => ?_⟩
      exact hg A H0 G0 σ en H4 G4 s4 y w dy dw Q m4 ((ny.go (e3.trans e4)).now m4) (nw.now m4) o4
  | _ => exact o3.elim
theorem pd_chain {op op' : CmpOp} {r r' : R2} {f g : D → D → M D} (ho : OpR X (compareOp op) r) (ho' : OpR X (compareOp op') r') (hf : OpD X.K X.mg E r f) (hg : OpD X.K X.mg E r' g) (ha : PB X E a eva) (hb : PB X E b evb) (hc : PB X E c evc) (hm : lastMarks [op, op'] [b, c] = false := by with_unfolding_all rfl) : PD X E (.Compare a [op, op'] [b, c] pos) (eChain f g eva evb evc) :=
  ⟨pe_imp (pe_chain ho ho' ha.p hb.p hc.p hm) fun _ _ _ h => re_chain hf hg h⟩
theorem pt_chainD {op op' : CmpOp} {r r' : R2} {f g : D → D → M D} (ho : OpR X (compareOp op) r) (ho' : OpR X (compareOp op') r') (hf : OpD X.K X.mg E r f) (hg : OpD X.K X.mg E r' g) (ha : PB X E a eva) (hb : PB X E b evb) (hc : PB X E c evc) (hm : lastMarks [op, op'] [b, c] = false := by with_unfolding_all rfl) : PTD X E (.Compare a [op, op'] [b, c] pos) (eT (eChain f g eva evb evc)) :=
  ⟨pt_imp (pt_chain ho ho' ha.p hb.p hc.p hm) fun _ _ _ h => re_chain hf hg (rt_e h)⟩
def UnD (K : PySem.W.Frag) (mg : Str → Option Value) (E : XK) (r : V → Hp → VK → Prop) (f : D → M D) : Prop :=
  ∀ (A : AA) (H0 G0 : Hp) (σ : L2.St) (en : Env) (H G : Hp) (s : LS) (x : V) (dx : D) (Q : VK), Mt K A H0 G0 σ en H G s → Now K A H G x dx →
    Og K mg E A H0 G0 σ en H G (f dx s) (fun d _ H' G' => ∀ v, Rep K A G' v d → Q v H') → r x H Q
def eUn (f : D → M D) (eva : EV) : EV := fun en => M.bind (eva en) f
theorem pd_un {op : UnaryOp} {r : V → Hp → VK → Prop} {f : D → M D} (ho : UnR X (unaryOp op) r) (hf : UnD X.K X.mg E r f) (ha : PB X E a eva) : PD X E (.UnaryOp op a pos) (eUn f eva) := by
  refine ⟨pe_imp (pe_un ho ha.p) fun σ H Q ⟨A, H0, G0, en, G, s, m, o⟩ => ?_⟩
  refine ⟨A, H0, G0, en, G, s, m, (Og.bind o).mono fun dx s1 H1 G1 m1 e1 o1 x nx => ?_⟩
  exact hf A H0 G0 σ en H1 G1 s1 x dx Q m1 (nx.now m1) o1

/-! ### tests -/
def tvNot (t : TV) : TV := fun en => M.bind (t en) fun b => M.ret (!b)
def tvAnd (t u : TV) : TV := fun en => M.bind (t en) fun b => if b = true then u en else M.ret false
def tvOr (t u : TV) : TV := fun en => M.bind (t en) fun b => if b = true then M.ret true else u en
theorem pt_notD (ha : PTD X E a tva) : PTD X E (.UnaryOp .Not a pos) (tvNot tva) := by
  refine ⟨pt_imp (pt_not ha.p) fun σ H Q ⟨A, H0, G0, en, G, s, m, o⟩ => ?_⟩
  exact ⟨A, H0, G0, en, G, s, m, (Og.bind o).mono fun b s1 H1 G1 m1 e1 o1 => o1 H1 G1 m1 .refl⟩
theorem pw_and1D (ha : PTD X E a tva) : PWD X E (.BoolOp .And [a] pos) tva := ⟨pw_and1 ha.p⟩
theorem pw_or1D (ha : PTD X E a tva) : PWD X E (.BoolOp .Or [a] pos) tva := ⟨pw_or1 ha.p⟩
theorem pw_andD {rest : List Expr} (ha : PTD X E a tva) (hb : PWD X E (.BoolOp .And (b :: rest) pos) tvb) : PWD X E (.BoolOp .And (a :: b :: rest) pos) (tvAnd tva tvb) := by
  refine ⟨pw_imp (pw_and ha.p hb.p) fun σ H Q ⟨A, H0, G0, en, G, s, m, o⟩ => ?_⟩
  refine ⟨A, H0, G0, en, G, s, m, (Og.bind o).mono fun k s1 H1 G1 m1 e1 o1 => ?_⟩
  cases k with
  | true => exact ⟨A, H0, G0, en, G1, s1, m1, o1⟩
  | false => exact o1 H1 G1 m1 .refl
theorem pw_orD {rest : List Expr} (ha : PTD X E a tva) (hb : PWD X E (.BoolOp .Or (b :: rest) pos) tvb) : PWD X E (.BoolOp .Or (a :: b :: rest) pos) (tvOr tva tvb) := by
  refine ⟨pw_imp (pw_or ha.p hb.p) fun σ H Q ⟨A, H0, G0, en, G, s, m, o⟩ => ?_⟩
  refine ⟨A, H0, G0, en, G, s, m, (Og.bind o).mono fun k s1 H1 G1 m1 e1 o1 => ?_⟩
  cases k with
  | false => exact ⟨A, H0, G0, en, G1, s1, m1, o1⟩
  | true => exact o1 H1 G1 m1 .refl
theorem PWD.t (h : PWD X E e tv) : PTD X E e tv := ⟨h.p.pt⟩
/-- and, or, not as values: of bools -/
def eAnd (eva evb : EV) : EV := fun en => M.bind (eva en) fun x => match x with
  | .bl true => evb en
  | .bl false => M.ret (.bl false)
  | _ => M.no
def eOr (eva evb : EV) : EV := fun en => M.bind (eva en) fun x => match x with
  | .bl false => evb en
  | .bl true => M.ret (.bl true)
  | _ => M.no
theorem pd_one {op} (h : PD X E a eva) : PD X E (.BoolOp op [a] pos) eva := ⟨pe_one h.p⟩
theorem pd_and {rest : List Expr} (ha : PD X E a eva) (hb : PD X E (.BoolOp .And (b :: rest) pos) evb) : PD X E (.BoolOp .And (a :: b :: rest) pos) (eAnd eva evb) := by
  refine ⟨pe_imp (pe_and ha.p hb.p) fun σ H Q ⟨A, H0, G0, en, G, s, m, o⟩ => ?_⟩
  refine ⟨A, H0, G0, en, G, s, m, (Og.bind o).mono fun d s1 H1 G1 m1 e1 o1 v r => ?_⟩
  cases d with
  | bl k =>
    refine ⟨k, r, ?_⟩
    cases k with
    | true => exact ⟨A, H0, G0, en, G1, s1, m1, o1⟩
    | false => exact o1 H1 G1 m1 .refl _ rfl
  | _ => exact o1.elim
theorem pd_or {rest : List Expr} (ha : PD X E a eva) (hb : PD X E (.BoolOp .Or (b :: rest) pos) evb) : PD X E (.BoolOp .Or (a :: b :: rest) pos) (eOr eva evb) := by
  refine ⟨pe_imp (pe_or ha.p hb.p) fun σ H Q ⟨A, H0, G0, en, G, s, m, o⟩ => ?_⟩
  refine ⟨A, H0, G0, en, G, s, m, (Og.bind o).mono fun d s1 H1 G1 m1 e1 o1 v r => ?_⟩
  cases d with
  | bl k =>
    refine ⟨k, r, ?_⟩
    cases k with
    | false => exact ⟨A, H0, G0, en, G1, s1, m1, o1⟩
    | true => exact o1 H1 G1 m1 .refl _ rfl
  | _ => exact o1.elim
def eNot (eva : EV) : EV := fun en => M.bind (eva en) fun x => match x with
  | .bl b => M.ret (.bl (!b))
  | _ => M.no
theorem pd_not (ha : PD X E a eva) : PD X E (.UnaryOp .Not a pos) (eNot eva) := by
  refine ⟨pe_imp (pe_not ha.p) fun σ H Q ⟨A, H0, G0, en, G, s, m, o⟩ => ?_⟩
  refine ⟨A, H0, G0, en, G, s, m, (Og.bind o).mono fun d s1 H1 G1 m1 e1 o1 v r => ?_⟩
  cases d with
  | bl k => exact ⟨k, r, o1 H1 G1 m1 .refl _ rfl⟩
  | _ => exact o1.elim
def eIf (t : TV) (eva evb : EV) : EV := fun en => M.bind (t en) fun b => if b = true then eva en else evb en
theorem pd_if (hc : PTD X E c tv) (ha : PD X E a eva) (hb : PD X E b evb) : PD X E (.IfExp c a b pos) (eIf tv eva evb) := by
  refine ⟨pe_imp (pe_ifExp hc.p ha.p hb.p) fun σ H Q ⟨A, H0, G0, en, G, s, m, o⟩ => ?_⟩
  refine ⟨A, H0, G0, en, G, s, m, (Og.bind o).mono fun k s1 H1 G1 m1 e1 o1 => ?_⟩
  cases k with
  | true => exact ⟨A, H0, G0, en, G1, s1, m1, o1⟩
  | false => exact ⟨A, H0, G0, en, G1, s1, m1, o1⟩

/-! ### arguments, displays, calls -/
def aNil : AV := fun _ => M.ret []
def aCons (ev : EV) (av : AV) : AV := fun en => M.bind (ev en) fun x => M.bind (av en) fun xs => M.ret (x :: xs)
theorem pad_nil : PAD X E [] aNil := ⟨pa_imp pa_nil fun σ H Q ⟨A, H0, G0, en, G, s, m, o⟩ => o H G m .refl _ rfl⟩
theorem pab_nil : PAB X E [] aNil := ⟨pa_imp pa_nil fun σ H Q ⟨A, H0, G0, en, G, s, m, o⟩ => o H G m .refl _ rfl⟩
theorem pad_cons {es : List Expr} {av : AV} (ha : PD X E e ev) (hr : PAD X E es av) (hs : starEach (e :: es) X.env = (false, eval e X.env) :: starEach es X.env := by rfl) : PAD X E (e :: es) (aCons ev av) := by
  refine ⟨pa_imp (pa_cons ha.p hr.p hs) fun σ H Q ⟨A, H0, G0, en, G, s, m, o⟩ => ?_⟩
  refine ⟨A, H0, G0, en, G, s, m, (Og.bind o).mono fun d s1 H1 G1 m1 e1 o1 v r => ?_⟩
  refine ⟨A, H0, G0, en, G1, s1, m1, (Og.bind o1).mono fun ds s2 H2 G2 m2 e2 o2 vs rs => ?_⟩
  exact o2 H2 G2 m2 .refl _ ⟨v, vs, rfl, Rep.mono e2.g d r, rs⟩
theorem NowSs.go {K : PySem.W.Frag} {A : AA} {H0 G0 H G H1 G1 : Hp} {σ : L2.St} {en : Env} (e : Ext A H G H1 G1) : ∀ {ds : List D} {vs : List V}, NowSs K A H0 G0 σ en H G vs ds → NowSs K A H0 G0 σ en H1 G1 vs ds
  | [], _, h => h
  | d :: ds, vs, h => by
    obtain ⟨x, r, e1, h1, h2⟩ := h
    exact ⟨x, r, e1, h1.go e, NowSs.go e h2⟩
theorem pab_cons {es : List Expr} {av : AV} (ha : PB X E e ev) (hr : PAB X E es av) (hs : starEach (e :: es) X.env = (false, eval e X.env) :: starEach es X.env := by rfl) : PAB X E (e :: es) (aCons ev av) := by
  refine ⟨pa_imp (pa_cons ha.p hr.p hs) fun σ H Q ⟨A, H0, G0, en, G, s, m, o⟩ => ?_⟩
  refine ⟨A, H0, G0, en, G, s, m, (Og.bind o).mono fun d s1 H1 G1 m1 e1 o1 v r => ?_⟩
  refine ⟨A, H0, G0, en, G1, s1, m1, (Og.bind o1).mono fun ds s2 H2 G2 m2 e2 o2 vs rs => ?_⟩
  exact o2 H2 G2 m2 .refl _ ⟨v, vs, rfl, r.go e2, rs⟩
def fits (n : Nat) : Bool := decide (n ≤ 16777216)
theorem fits_ok {n : Nat} (h : fits n = true) : n ≤ sizeLine := by
  rw [sizeLine_eq]
  exact of_decide_eq_true h
def eTup (av : AV) : EV := fun en => M.bind (av en) fun ds => if fits ds.length = true then M.ret (.tup ds) else M.no
def eLst (av : AV) : EV := fun en => M.bind (av en) fun ds => if fits ds.length = true then M.ret (.lst ds) else M.no
theorem pd_tup {es : List Expr} {av : AV} {x1} (h : PAD X E es av) : PD X E (.Tuple es x1 pos) (eTup av) := by
  refine ⟨pe_imp (pe_tup h.p) fun σ H Q ⟨A, H0, G0, en, G, s, m, o⟩ => ?_⟩
  refine ⟨A, H0, G0, en, G, s, m, (Og.bind o).mono fun ds s1 H1 G1 m1 e1 o1 vs rs => ?_⟩
  by_cases hz : fits ds.length = true
  · rw [if_pos hz] at o1
    refine ⟨by rw [rs.length]; exact fits_ok hz, fun p hp => ?_⟩
    obtain ⟨m2, e2⟩ := m1.newF (o := .tup vs) hp
    exact o1 _ _ m2 e2 _ ⟨p, vs, rfl, SqT.of upd_same, Reps.mono e2.g ds rs⟩
  · rw [if_neg hz] at o1
    exact o1.elim
theorem pf_lst {es : List Expr} {av : AV} (h : PAD X E es av) : PF X E (.List es pos) (eLst av) := by
  refine ⟨pe_imp (pe_lst h.p) fun σ H Q ⟨A, H0, G0, en, G, s, m, o⟩ => ?_⟩
  refine ⟨A, H0, G0, en, G, s, m, (Og.bind o).mono fun ds s1 H1 G1 m1 e1 o1 vs rs => ?_⟩
  by_cases hz : fits ds.length = true
  · rw [if_pos hz] at o1
    refine ⟨by rw [rs.length]; exact fits_ok hz, fun p hp => ?_⟩
    obtain ⟨m2, e2⟩ := m1.newU (o := .lst vs) hp
    have h0 : H p = none := by
      cases q : H p with
      | none => rfl
      | some u => exact absurd hp (e1.t p (by rw [q]; exact Option.some_ne_none _))
    exact o1 _ _ m2 e2 p h0 ⟨m1.g0 hp, vs, upd_same, rs⟩
  · rw [if_neg hz] at o1
    exact o1.elim
/-- a built-in's call by values -/
def NowL (K : PySem.W.Frag) (A : AA) (H G : Hp) : List V → List D → Prop
  | xs, [] => xs = []
  | xs, d :: ds => ∃ x r, xs = x :: r ∧ Now K A H G x d ∧ NowL K A H G r ds
theorem NowSs.now {K : PySem.W.Frag} {A : AA} {H0 G0 H G : Hp} {σ : L2.St} {en : Env} {s : LS} (m : Mt K A H0 G0 σ en H G s) : ∀ {ds : List D} {vs : List V}, NowSs K A H0 G0 σ en H G vs ds → NowL K A H G vs ds
  | [], _, h => h
  | d :: ds, vs, h => by
    obtain ⟨x, r, e1, h1, h2⟩ := h
    exact ⟨x, r, e1, h1.now m, NowSs.now m h2⟩
def CallD (K : PySem.W.Frag) (mg : Str → Option Value) (E : XK) (r : List V → Hp → VK → Prop) (f : List D → M D) : Prop :=
  ∀ (A : AA) (H0 G0 : Hp) (σ : L2.St) (en : Env) (H G : Hp) (s : LS) (xs : List V) (ds : List D) (Q : VK), Mt K A H0 G0 σ en H G s → NowL K A H G xs ds →
    Og K mg E A H0 G0 σ en H G (f ds s) (fun d _ H' G' => ∀ v, Rep K A G' v d → Q v H') → r xs H Q
/-- .. that gives a new list -/
def CallF (K : PySem.W.Frag) (mg : Str → Option Value) (E : XK) (r : List V → Hp → VK → Prop) (f : List D → M D) : Prop :=
  ∀ (A : AA) (H0 G0 : Hp) (σ : L2.St) (en : Env) (H G : Hp) (s : LS) (xs : List V) (ds : List D) (Q : VK), Mt K A H0 G0 σ en H G s → NowL K A H G xs ds →
    Og K mg E A H0 G0 σ en H G (f ds s) (fun d _ H' G' => ∀ p, H p = none → FrO K A H' G' p d → Q (.ref p) H') → r xs H Q
def eCall (f : List D → M D) (av : AV) : EV := fun en => M.bind (av en) f
theorem re_callB {K mg E} {r : List V → Hp → VK → Prop} {f : List D → M D} {av : AV} (hf : CallD K mg E r f) {σ : L2.St} {H : Hp} {Q : VK} (h : RE K mg E (eCall f av) σ H Q) : tCB r (RAB K mg E av) σ H Q := by
  obtain ⟨A, H0, G0, en, G, s, m, o⟩ := h
  refine ⟨A, H0, G0, en, G, s, m, (Og.bind o).mono fun ds s1 H1 G1 m1 e1 o1 vs rs => ?_⟩
  exact hf A H0 G0 σ en H1 G1 s1 vs ds Q m1 (rs.now m1) o1
theorem rf_callB {K mg E} {r : List V → Hp → VK → Prop} {f : List D → M D} {av : AV} (hf : CallF K mg E r f) {σ : L2.St} {H : Hp} {Q : VK} (h : RF K mg E (eCall f av) σ H Q) : tCB r (RAB K mg E av) σ H Q := by
  obtain ⟨A, H0, G0, en, G, s, m, o⟩ := h
  refine ⟨A, H0, G0, en, G, s, m, (Og.bind o).mono fun ds s1 H1 G1 m1 e1 o1 vs rs => ?_⟩
  refine hf A H0 G0 σ en H1 G1 s1 vs ds Q m1 (rs.now m1) (o1.mono fun d s2 H2 G2 m2 e2 q p hp => q p ?_)
  cases z : H p with
  | none => rfl
  | some u => exact absurd hp (e1.t p (by rw [z]; exact Option.some_ne_none _))
theorem pd_callB {x : Str} {p : Pos} {es : List Expr} {id : String} {r : List V → Hp → VK → Prop} {f : List D → M D} {av : AV} (hc : CallR X (.builtin id) r) (hf : CallD X.K X.mg E r f) (hg : Gl X x) (hm : X.mg x = none) (hv : bootBuiltins x = some (.builtin id)) (ha : PAB X E (e :: es) av)
    (hn : x ≠ "__name__" := by decide) (hdb : (x == ("__debug__" : Str)) = false := by decide) (he : starEach (e :: es) X.env = (false, eval e X.env) :: starEach es X.env := by rfl) (hpl : (backTo pos (starEach es X.env)).any (·.1) = false := by rfl) : PD X E (.Call (.Name x p) (e :: es) [] pos) (eCall f av) :=
  ⟨pe_imp (pe_callB hc hg hm hv ha.p hn hdb he hpl) fun _ _ _ h => re_callB hf h⟩
theorem pf_callB {x : Str} {p : Pos} {es : List Expr} {id : String} {r : List V → Hp → VK → Prop} {f : List D → M D} {av : AV} (hc : CallR X (.builtin id) r) (hf : CallF X.K X.mg E r f) (hg : Gl X x) (hm : X.mg x = none) (hv : bootBuiltins x = some (.builtin id)) (ha : PAB X E (e :: es) av)
    (hn : x ≠ "__name__" := by decide) (hdb : (x == ("__debug__" : Str)) = false := by decide) (he : starEach (e :: es) X.env = (false, eval e X.env) :: starEach es X.env := by rfl) (hpl : (backTo pos (starEach es X.env)).any (·.1) = false := by rfl) : PF X E (.Call (.Name x p) (e :: es) [] pos) (eCall f av) :=
  ⟨pe_imp (pe_callB hc hg hm hv ha.p hn hdb he hpl) fun _ _ _ h => rf_callB hf h⟩
theorem pd_callTy {x : Str} {p : Pos} {es : List Expr} {T : String} {r : List V → Hp → VK → Prop} {f : List D → M D} {av : AV} (hc : CallR X (.type T) r) (hf : CallD X.K X.mg E r f) (hg : Gl X x) (hm : X.mg x = none) (hv : bootBuiltins x = some (.type T)) (ha : PAB X E (e :: es) av)
    (hn : x ≠ "__name__" := by decide) (hdb : (x == ("__debug__" : Str)) = false := by decide) (he : starEach (e :: es) X.env = (false, eval e X.env) :: starEach es X.env := by rfl) (hpl : (backTo pos (starEach es X.env)).any (·.1) = false := by rfl) : PD X E (.Call (.Name x p) (e :: es) [] pos) (eCall f av) :=
  ⟨pe_imp (pe_callTy hc hg hm hv ha.p hn hdb he hpl) fun _ _ _ h => re_callB hf h⟩
theorem pf_callTy {x : Str} {p : Pos} {es : List Expr} {T : String} {r : List V → Hp → VK → Prop} {f : List D → M D} {av : AV} (hc : CallR X (.type T) r) (hf : CallF X.K X.mg E r f) (hg : Gl X x) (hm : X.mg x = none) (hv : bootBuiltins x = some (.type T)) (ha : PAB X E (e :: es) av)
    (hn : x ≠ "__name__" := by decide) (hdb : (x == ("__debug__" : Str)) = false := by decide) (he : starEach (e :: es) X.env = (false, eval e X.env) :: starEach es X.env := by rfl) (hpl : (backTo pos (starEach es X.env)).any (·.1) = false := by rfl) : PF X E (.Call (.Name x p) (e :: es) [] pos) (eCall f av) :=
  ⟨pe_imp (pe_callTy hc hg hm hv ha.p hn hdb he hpl) fun _ _ _ h => rf_callB hf h⟩
end
/-- the promise of a def of n parameters: it does what f says of data -/
def spD (K : PySem.W.Frag) (mg : Str → Option Value) (n : Nat) (f : List D → M D) : Sp := fun vs H Q E => vs.length = n ∧ ∃ A G ds s, Same G H ∧ StOk A H G s ∧ Reps K A G vs ds ∧ match f ds s with
  | .ok d s' => ∀ v H' G', Ext A H G H' G' → Same G' H' → StOk A H' G' s' → Rep K A G' v d → Q v H'
  | .exc x s' => ∀ H' G' cls oe, Ext A H G H' G' → Same G' H' → StOk A H' G' s' → ExAt mg H' cls oe x → E cls oe H'
  | .bad => False
section
variable {X : Cx} {E : XK} {e : Expr} {pos : Pos}
theorem pd_call {x : Str} {p : Pos} {es : List Expr} {av : AV} {CX : CXT} {k n : Nat} {f : Addr} {fd : FuncData} {ps : List Str} {fn : List D → M D} (F : FnOk X.prog X.w X.K X.mg X.base CX k f fd ps (spD X.K X.mg n fn)) (hr : Room k X.A) (hg : Gl X x) (hm : X.mg x = some (.ref f))
    (hk : PySem.W.keepIn X.K (.ref f) = true) (hb : Binds X.K fd ps []) (hx : Passes CX X E) (ha : PAD X E (e :: es) av) (hl : ∀ en s ds s', av en s = .ok ds s' → ds.length = n)
    (hdb : (x == ("__debug__" : Str)) = false := by decide) (he : starEach (e :: es) X.env = (false, eval e X.env) :: starEach es X.env := by rfl) (hpl : (backTo pos (starEach es X.env)).any (·.1) = false := by rfl) : PD X E (.Call (.Name x p) (e :: es) [] pos) (eCall fn av) := by
  refine ⟨pe_imp (pe_call F hr hg hm hk hb .nil hx ha.p hdb he hpl) fun σ H Q ⟨A, H0, G0, en, G, s, m, o⟩ => ?_⟩
  have hl := hl en s
  have o0 := Og.bind o
  refine ⟨A, H0, G0, en, G, s, m, ?_⟩
  cases z : av en s with
  | bad =>
    rw [z] at o0
    exact o0
  | exc x s1 =>
    rw [z] at o0
    exact o0
  | ok ds s1 =>
    rw [z] at o0
    intro H1 G1 m1 e1 vs rs
    have hn : ds.length = n := hl ds s1 z
    have o1 : Og X.K X.mg E A H0 G0 σ en H1 G1 (fn ds s1) (fun d _ H' G' => ∀ v, Rep X.K A G' v d → Q v H') := o0 H1 G1 m1 e1
    show spD X.K X.mg n fn (vs ++ []) H1 Q E
    rw [List.append_nil]
    refine ⟨by rw [rs.length]; exact hn, A, G1, ds, s1, m1.sub, m1.st, rs, ?_⟩
    cases q : fn ds s1 with
    | ok d s2 =>
      rw [q] at o1
      exact fun v H2 G2 e2 sb st r => o1 H2 G2 (m1.go e2 sb st) e2 v r
    | exc x s2 =>
      rw [q] at o1
      exact fun H2 G2 cls oe e2 sb st r => o1 H2 G2 cls oe (m1.ext.trans e2) sb st r
    | bad =>
      rw [q] at o1
      exact o1
theorem len_consA {ev : EV} {av : AV} {n : Nat} (h : ∀ en s ds s', av en s = .ok ds s' → ds.length = n) : ∀ en s ds s', aCons ev av en s = .ok ds s' → ds.length = n + 1 := fun en s ds s' e => by
  unfold aCons M.bind at e
  cases z : ev en s with
  | ok d s1 =>
    rw [z] at e
    cases z2 : av en s1 with
    | ok ds2 s2 =>
      simp only [z2] at e
      cases e
      rw [List.length_cons, h _ _ _ _ z2]
    | exc x s2 => simp only [z2] at e; cases e
    | bad => simp only [z2] at e; cases e
  | exc x s1 => rw [z] at e; cases e
  | bad => rw [z] at e; cases e
theorem len_nilA : ∀ en s ds s', aNil en s = .ok ds s' → ds.length = 0 := fun en s ds s' e => by
  cases e
  rfl
end
end DL

set_option Elab.async false
set_option linter.all false
set_option maxRecDepth 100000
set_option maxHeartbeats 4000000
/-! Operators on data. -/
namespace DL
open PySem PySem.Spec PyProof.Rows L2

section
variable {X : Cx} {K : PySem.W.Frag} {mg : Str → Option Value} {E : XK}
/-! ### what a rule by values wants -/
theorem og_ret {A : AA} {H0 G0 H G : Hp} {σ : L2.St} {en : Env} {s : LS} {d : D} {v : V} {Q : VK} (m : Mt K A H0 G0 σ en H G s) (o : Og K mg E A H0 G0 σ en H G (M.ret d s) fun d _ H' G' => ∀ v, Rep K A G' v d → Q v H') (r : Rep K A G v d) : Q v H := o H G m .refl v r
/-- a new tuple -/
theorem og_tup {A : AA} {H0 G0 H G : Hp} {σ : L2.St} {en : Env} {s : LS} {ds : List D} {xs : List V} {Q : VK} (m : Mt K A H0 G0 σ en H G s) (o : Og K mg E A H0 G0 σ en H G (M.ret (.tup ds) s) fun d _ H' G' => ∀ v, Rep K A G' v d → Q v H') (r : Reps K A G xs ds) :
    ∀ p, H p = none → Q (.ref p) (upd H p (.tup xs)) := fun p hp => by
  obtain ⟨m2, e2⟩ := m.newF (o := .tup xs) hp
  exact o _ _ m2 e2 _ ⟨p, xs, rfl, SqT.of upd_same, Reps.mono e2.g ds r⟩
/-- a new list, frozen -/
theorem og_lst {A : AA} {H0 G0 H G : Hp} {σ : L2.St} {en : Env} {s : LS} {ds : List D} {xs : List V} {Q : VK} (m : Mt K A H0 G0 σ en H G s) (o : Og K mg E A H0 G0 σ en H G (M.ret (.lst ds) s) fun d _ H' G' => ∀ v, Rep K A G' v d → Q v H') (r : Reps K A G xs ds) :
    ∀ p, H p = none → Q (.ref p) (upd H p (.lst xs)) := fun p hp => by
  obtain ⟨m2, e2⟩ := m.newF (o := .lst xs) hp
  exact o _ _ m2 e2 _ ⟨p, xs, rfl, upd_same, Reps.mono e2.g ds r⟩
/-- a new list, not frozen -/
theorem og_lstF {A : AA} {H0 G0 H G : Hp} {σ : L2.St} {en : Env} {s : LS} {ds : List D} {xs : List V} {Q : VK} (m : Mt K A H0 G0 σ en H G s) (o : Og K mg E A H0 G0 σ en H G (M.ret (.lst ds) s) fun d _ H' G' => ∀ p, H p = none → FrO K A H' G' p d → Q (.ref p) H') (r : Reps K A G xs ds) :
    ∀ p, H p = none → Q (.ref p) (upd H p (.lst xs)) := fun p hp => by
  obtain ⟨m2, e2⟩ := m.newU (o := .lst xs) hp
  exact o _ _ m2 e2 p hp ⟨m.g0 hp, xs, upd_same, r⟩

/-! ### arithmetic -/
def big (i : Int) : Bool := decide (i.natAbs < 2 ^ 400000)
def addD : D → D → M D
  | .int i, .int j => M.ret (.int (i + j))
  | .str a, .str b => if fits (a.length + b.length) = true then M.ret (.str (a ++ b)) else M.no
  | .lst a, .lst b => if fits (a.length + b.length) = true then M.ret (.lst (a ++ b)) else M.no
  | .tup a, .tup b => if fits (a.length + b.length) = true then M.ret (.tup (a ++ b)) else M.no
  | _, _ => M.no
abbrev rAddD (K : PySem.W.Frag) : R2 := fun x y H Q => (rI0 fun i j => .int (i + j)) x y H Q ∨ (∃ i j, x = .str i ∧ y = .str j ∧ i.length + j.length ≤ sizeLine ∧ Q (.str (i ++ j)) H) ∨ rCat x y H Q ∨ rCatA K x y H Q
theorem op_addD : OpR X (binaryOp .Add) (rAddD X.K) := op_add.or (op_add_str.or (op_cat.or op_catA))
theorem add_ok : OpD K mg E (rAddD K) addD := by
  intro A H0 G0 σ en H G s x y dx dy Q m hx hy o
  unfold addD at o
  split at o
  · exact .inl ⟨_, _, hx, hy, og_ret m o rfl⟩
  · rename_i a b
    by_cases hz : fits (a.length + b.length) = true
    · rw [if_pos hz] at o
      exact .inr (.inl ⟨_, _, hx, hy, fits_ok hz, og_ret m o rfl⟩)
    · rw [if_neg hz] at o
      exact o.elim
  · rename_i a b
    by_cases hz : fits (a.length + b.length) = true
    · rw [if_pos hz] at o
      obtain ⟨p, xs, e1, h1, r1⟩ := hx
      obtain ⟨q, ys, e2, h2, r2⟩ := hy
      exact .inr (.inr (.inl ⟨p, q, xs, ys, e1, e2, h1, h2, by rw [r1.length, r2.length]; exact fits_ok hz, og_lst m o (Reps.append r1 r2)⟩))
    · rw [if_neg hz] at o
      exact o.elim
  · rename_i a b
    by_cases hz : fits (a.length + b.length) = true
    · rw [if_pos hz] at o
      obtain ⟨p, xs, e1, h1, r1⟩ := hx
      obtain ⟨q, ys, e2, h2, r2⟩ := hy
      refine .inr (.inr (.inr ⟨p, q, xs, ys, e1, e2, Same.tupq m.sub h1, Same.tupq m.sub h2, by rw [r1.length, r2.length]; exact fits_ok hz, fun z => ?_, fun _ z => ?_, fun _ _ => og_tup m o (Reps.append r1 r2)⟩))
      · have z2 : a = [] := List.eq_nil_of_length_eq_zero (by rw [← r1.length, z]; rfl)
        subst z2
        exact og_ret m o ⟨q, ys, rfl, h2, r2⟩
      · have z2 : b = [] := List.eq_nil_of_length_eq_zero (by rw [← r2.length, z]; rfl)
        subst z2
        rw [List.append_nil] at o
        exact og_ret m o ⟨p, xs, rfl, h1, r1⟩
    · rw [if_neg hz] at o
      exact o.elim
  · exact o.elim
/-- list + list as a list of one's own -/
def catD : D → D → M D
  | .lst a, .lst b => if fits (a.length + b.length) = true then M.ret (.lst (a ++ b)) else M.no
  | _, _ => M.no
def subD : D → D → M D
  | .int i, .int j => M.ret (.int (i - j))
  | _, _ => M.no
theorem sub_ok : OpD K mg E (rI0 fun i j => .int (i - j)) subD := by
  intro A H0 G0 σ en H G s x y dx dy Q m hx hy o
  unfold subD at o
  split at o
  · exact ⟨_, _, hx, hy, og_ret m o rfl⟩
  · exact o.elim
theorem log2_big {i : Int} (h : big i = true) : i.natAbs.log2 < 400000 := by
  have h1 : i.natAbs < 2 ^ 400000 := of_decide_eq_true h
  exact PySem.Flt.log2_lt_of (by omega) h1
def small (i : Int) : Bool := decide (-(2 ^ 64) < i) && decide (i < 2 ^ 64)
theorem small_ok {i : Int} (h : small i = true) : -(2 ^ 64) < i ∧ i < 2 ^ 64 := by
  unfold small at h
  rw [Bool.and_eq_true] at h
  exact ⟨of_decide_eq_true h.1, of_decide_eq_true h.2⟩
def mulD : D → D → M D
  | .int i, .int j => if (small i || small j || (big i && big j)) = true then M.ret (.int (i * j)) else M.no
  | .lst a, .int k => if (decide (-(2 ^ 62) ≤ k) && decide (k < 2 ^ 62) && fits (a.length * k.toNat)) = true then M.ret (.lst (List.replicate k.toNat a).flatten) else M.no
  | _, _ => M.no
abbrev rMulD : R2 := fun x y H Q => (rI CMul fun i j => .int (i * j)) x y H Q ∨ (rI CMulW fun i j => .int (i * j)) x y H Q ∨ rRep x y H Q
theorem op_mulD : OpR X (binaryOp .Mult) rMulD := op_mul.or (op_mulW.or op_rep)
theorem mul_ok : OpD K mg E rMulD mulD := by
  intro A H0 G0 σ en H G s x y dx dy Q m hx hy o
  unfold mulD at o
  split at o
  · rename_i i j
    by_cases hz : (small i || small j || (big i && big j)) = true
    · rw [if_pos hz] at o
      rw [Bool.or_eq_true, Bool.or_eq_true, Bool.and_eq_true] at hz
      rcases hz with (hz | hz) | hz
      · exact .inl ⟨_, _, hx, hy, .inl (small_ok hz), og_ret m o rfl⟩
      · exact .inl ⟨_, _, hx, hy, .inr (small_ok hz), og_ret m o rfl⟩
      have h1 := log2_big hz.1
      have h2 := log2_big hz.2
      exact .inr (.inl ⟨_, _, hx, hy, by show i.natAbs.log2 + j.natAbs.log2 < 1000000; omega, og_ret m o rfl⟩)
    · rw [if_neg hz] at o
      exact o.elim
  · rename_i a k
    by_cases hz : (decide (-(2 ^ 62) ≤ k) && decide (k < 2 ^ 62) && fits (a.length * k.toNat)) = true
    · rw [if_pos hz] at o
      rw [Bool.and_eq_true, Bool.and_eq_true] at hz
      have z1 := of_decide_eq_true hz.1.1
      have z2 := of_decide_eq_true hz.1.2
      obtain ⟨p, xs, e1, h1, r1⟩ := hx
      exact .inr (.inr ⟨p, k, xs, e1, hy, h1, by omega, by omega, by rw [r1.length]; exact fits_ok hz.2, og_lst m o (Reps.flatRep r1 _)⟩)
    · rw [if_neg hz] at o
      exact o.elim
  · exact o.elim
def fdivD : D → D → M D
  | .int i, .int j => if (decide (0 < j) && decide (j.natAbs < 2 ^ 8000)) = true then M.ret (.int (i / j)) else M.no
  | _, _ => M.no
theorem fdiv_ok : OpD K mg E (rI CDivW fun i j => .int (i / j)) fdivD := by
  intro A H0 G0 σ en H G s x y dx dy Q m hx hy o
  unfold fdivD at o
  split at o
  · rename_i i j
    by_cases hz : (decide (0 < j) && decide (j.natAbs < 2 ^ 8000)) = true
    · rw [if_pos hz] at o
      rw [Bool.and_eq_true] at hz
      exact ⟨_, _, hx, hy, wide_div (of_decide_eq_true hz.1) (of_decide_eq_true hz.2) (by decide) (by decide), og_ret m o rfl⟩
    · rw [if_neg hz] at o
      exact o.elim
  · exact o.elim
def modD : D → D → M D
  | .int i, .int j => if decide (0 < j) = true then M.ret (.int (i % j)) else M.no
  | _, _ => M.no
theorem mod_ok : OpD K mg E (rI (fun _ j => 0 < j) fun i j => .int (i % j)) modD := by
  intro A H0 G0 σ en H G s x y dx dy Q m hx hy o
  unfold modD at o
  split at o
  · rename_i i j
    by_cases hz : decide (0 < j) = true
    · rw [if_pos hz] at o
      exact ⟨_, _, hx, hy, of_decide_eq_true hz, og_ret m o rfl⟩
    · rw [if_neg hz] at o
      exact o.elim
  · exact o.elim
def negD : D → M D
  | .int i => M.ret (.int (-i))
  | _ => M.no
theorem neg_ok : UnD K mg E (rU fun i => .int (-i)) negD := by
  intro A H0 G0 σ en H G s x dx Q m hx o
  unfold negD at o
  split at o
  · exact ⟨_, hx, og_ret m o rfl⟩
  · exact o.elim

/-! ### order of ints -/
def ltD : D → D → M D
  | .int i, .int j => M.ret (.bl (decide (i < j)))
  | _, _ => M.no
def leD : D → D → M D
  | .int i, .int j => M.ret (.bl (decide (i ≤ j)))
  | _, _ => M.no
def gtD : D → D → M D
  | .int i, .int j => M.ret (.bl (decide (j < i)))
  | _, _ => M.no
def geD : D → D → M D
  | .int i, .int j => M.ret (.bl (decide (j ≤ i)))
  | _, _ => M.no
theorem lt_ok : OpD K mg E (rI0 fun i j => .bl (decide (i < j))) ltD := by
  intro A H0 G0 σ en H G s x y dx dy Q m hx hy o
  unfold ltD at o
  split at o
  · exact ⟨_, _, hx, hy, og_ret m o rfl⟩
  · exact o.elim
theorem le_ok : OpD K mg E (rI0 fun i j => .bl (decide (i ≤ j))) leD := by
  intro A H0 G0 σ en H G s x y dx dy Q m hx hy o
  unfold leD at o
  split at o
  · exact ⟨_, _, hx, hy, og_ret m o rfl⟩
  · exact o.elim
theorem gt_ok : OpD K mg E (rI0 fun i j => .bl (decide (j < i))) gtD := by
  intro A H0 G0 σ en H G s x y dx dy Q m hx hy o
  unfold gtD at o
  split at o
  · exact ⟨_, _, hx, hy, og_ret m o rfl⟩
  · exact o.elim
theorem ge_ok : OpD K mg E (rI0 fun i j => .bl (decide (j ≤ i))) geD := by
  intro A H0 G0 σ en H G s x y dx dy Q m hx hy o
  unfold geD at o
  split at o
  · exact ⟨_, _, hx, hy, og_ret m o rfl⟩
  · exact o.elim

/-! ### is None -/
def D.isN : D → Bool
  | .non => true
  | _ => false
def isNonD : D → D → M D
  | d, .non => M.ret (.bl d.isN)
  | _, _ => M.no
def notNonD : D → D → M D
  | d, .non => M.ret (.bl (!d.isN))
  | _, _ => M.no
theorem Now.isN {A : AA} {H G : Hp} {x : V} {d : D} (h : Now K A H G x d) : decide (x = .non) = d.isN := by
  cases d with
  | non => cases (show x = _ from h); rfl
  | bl b => cases (show x = _ from h); rfl
  | int b => cases (show x = _ from h); rfl
  | str b => cases (show x = _ from h); rfl
  | tup b => obtain ⟨a, xs, rfl, _⟩ := h; rfl
  | lst b => obtain ⟨a, xs, rfl, _⟩ := h; rfl
  | dK b => obtain ⟨a, xs, rfl, _⟩ := h; rfl
  | dT b => obtain ⟨a, xs, rfl, _⟩ := h; rfl
  | stt => obtain ⟨a, _, rfl⟩ := h; rfl
theorem isN_ok : OpD K mg E (fun x y H Q => y = .non ∧ Q (.bl (decide (x = .non))) H) isNonD := by
  intro A H0 G0 σ en H G s x y dx dy Q m hx hy o
  unfold isNonD at o
  split at o
  · exact ⟨hy, by rw [hx.isN]; exact og_ret m o rfl⟩
  · exact o.elim
theorem notN_ok : OpD K mg E (fun x y H Q => y = .non ∧ Q (.bl (!decide (x = .non))) H) notNonD := by
  intro A H0 G0 σ en H G s x y dx dy Q m hx hy o
  unfold notNonD at o
  split at o
  · exact ⟨hy, by rw [hx.isN]; exact og_ret m o rfl⟩
  · exact o.elim

/-! ### equality of data -/
def shal : Nat → D → Bool
  | _, .non => true
  | _, .bl _ => true
  | _, .int _ => true
  | _, .str x => (PyData.str x).canLay0
  | n + 1, .tup ds => ds.all (shal n)
  | n + 1, .lst ds => ds.all (shal n)
  | _, _ => false
mutual
def D.toP : D → PyData
  | .non => .none
  | .bl b => .bool b
  | .int i => .int i
  | .str x => .str x
  | .tup ds => .tuple (D.toPs ds)
  | .lst ds => .list (D.toPs ds)
  | _ => .none
def D.toPs : List D → List PyData
  | [] => []
  | d :: ds => d.toP :: D.toPs ds
end
theorem shal_lay : ∀ (n : Nat) (d : D), shal n d = true → d.toP.canLay0 = true ∧ d.toP.depth ≤ n + 1
  | n, .non, _ => by cases n <;> exact ⟨rfl, by simp [D.toP, PyData.depth]⟩
  | n, .bl b, _ => by cases n <;> exact ⟨rfl, by simp [D.toP, PyData.depth]⟩
  | n, .int b, _ => by cases n <;> exact ⟨rfl, by simp [D.toP, PyData.depth]⟩
  | n, .str b, h => by cases n <;> exact ⟨h, by simp [D.toP, PyData.depth]⟩
  | n + 1, .tup ds, h => by
    have h1 : ∀ d ∈ ds, shal n d = true := List.all_eq_true.mp h
    have h2 : PyData.canLayAll0 (D.toPs ds) = true ∧ PyData.depthAll (D.toPs ds) ≤ n + 1 := by
      have go : ∀ es : List D, (∀ d ∈ es, shal n d = true) → PyData.canLayAll0 (D.toPs es) = true ∧ PyData.depthAll (D.toPs es) ≤ n + 1 := by
        intro es
        induction es with
        | nil => intro _; exact ⟨rfl, by simp [D.toPs, PyData.depthAll]⟩
        | cons d es ih =>
          intro hk
          obtain ⟨a1, a2⟩ := shal_lay n d (hk d List.mem_cons_self)
          obtain ⟨b1, b2⟩ := ih fun e he => hk e (List.mem_cons_of_mem _ he)
          simp only [D.toPs, PyData.canLayAll0, PyData.depthAll, a1, b1, Bool.and_self, true_and]
          omega
      exact go ds h1
    simp only [D.toP, PyData.canLay0, PyData.depth, h2.1, true_and]
    omega
  | n + 1, .lst ds, h => by
    have h1 : ∀ d ∈ ds, shal n d = true := List.all_eq_true.mp h
    have h2 : PyData.canLayAll0 (D.toPs ds) = true ∧ PyData.depthAll (D.toPs ds) ≤ n + 1 := by
      have go : ∀ es : List D, (∀ d ∈ es, shal n d = true) → PyData.canLayAll0 (D.toPs es) = true ∧ PyData.depthAll (D.toPs es) ≤ n + 1 := by
        intro es
        induction es with
        | nil => intro _; exact ⟨rfl, by simp [D.toPs, PyData.depthAll]⟩
        | cons d es ih =>
          intro hk
          obtain ⟨a1, a2⟩ := shal_lay n d (hk d List.mem_cons_self)
          obtain ⟨b1, b2⟩ := ih fun e he => hk e (List.mem_cons_of_mem _ he)
          simp only [D.toPs, PyData.canLayAll0, PyData.depthAll, a1, b1, Bool.and_self, true_and]
          omega
      exact go ds h1
    simp only [D.toP, PyData.canLay0, PyData.depth, h2.1, true_and]
    omega
  | 0, .tup _, h => by simp [shal] at h
  | 0, .lst _, h => by simp [shal] at h
  | 0, .dK _, h => by simp [shal] at h
  | 0, .dT _, h => by simp [shal] at h
  | 0, .stt, h => by simp [shal] at h
  | _ + 1, .dK _, h => by simp [shal] at h
  | _ + 1, .dT _, h => by simp [shal] at h
  | _ + 1, .stt, h => by simp [shal] at h
theorem shal_shaped {n : Nat} {d : D} (hn : n ≤ 60) (h : shal n d = true) : SeqAt.shaped d.toP = true := by
  obtain ⟨h1, h2⟩ := shal_lay n d h
  unfold SeqAt.shaped
  rw [h1, Bool.true_and]
  exact decide_eq_true (by omega)
mutual
theorem Rep.dp {A : AA} {H G : Hp} (g : Same G H) : ∀ (n : Nat) (d : D) {v : V}, shal n d = true → Rep K A G v d → Dp K H v d.toP
  | _, .non, _, _, h => by cases (show _ = _ from h); exact .non
  | _, .bl b, _, _, h => by cases (show _ = _ from h); exact .bl b
  | _, .int b, _, _, h => by cases (show _ = _ from h); exact .int b
  | _, .str b, _, _, h => by cases (show _ = _ from h); exact .str b
  | n + 1, .tup ds, v, z, h => by
    obtain ⟨a, xs, rfl, h1, h2⟩ := h
    exact .tup (Same.tupq g h1) (Reps.dp g n ds (List.all_eq_true.mp z) h2)
  | n + 1, .lst ds, v, z, h => by
    obtain ⟨a, xs, rfl, h1, h2⟩ := h
    exact .lst (SqL.of (g _ _ h1)) (Reps.dp g n ds (List.all_eq_true.mp z) h2)
  | 0, .tup _, _, h, _ => by simp [shal] at h
  | 0, .lst _, _, h, _ => by simp [shal] at h
  | 0, .dK _, _, h, _ => by simp [shal] at h
  | 0, .dT _, _, h, _ => by simp [shal] at h
  | 0, .stt, _, h, _ => by simp [shal] at h
  | _ + 1, .dK _, _, h, _ => by simp [shal] at h
  | _ + 1, .dT _, _, h, _ => by simp [shal] at h
  | _ + 1, .stt, _, h, _ => by simp [shal] at h
theorem Reps.dp {A : AA} {H G : Hp} (g : Same G H) : ∀ (n : Nat) (ds : List D) {vs : List V}, (∀ d ∈ ds, shal n d = true) → Reps K A G vs ds → DpAll K H vs (D.toPs ds)
  | _, [], _, _, h => by cases (show _ = _ from h); exact .nil
  | n, d :: ds, vs, z, h => by
    obtain ⟨x, r, rfl, h1, h2⟩ := h
    exact .cons (Rep.dp g n d (z d List.mem_cons_self) h1) (Reps.dp g n ds (fun e he => z e (List.mem_cons_of_mem _ he)) h2)
end
theorem Now.dp {A : AA} {H0 G0 H G : Hp} {σ : L2.St} {en : Env} {s : LS} (m : Mt K A H0 G0 σ en H G s) {n : Nat} {d : D} {v : V} (z : shal n d = true) (h : Now K A H G v d) : Dp K H v d.toP := by
  cases d with
  | lst ds =>
    obtain ⟨a, xs, rfl, h1, h2⟩ := h
    cases n with
    | zero => simp [shal] at z
    | succ n => exact .lst (SqL.of h1) (Reps.dp m.sub n ds (List.all_eq_true.mp z) h2)
  | dK ds => cases n <;> simp [shal] at z
  | dT ds => cases n <;> simp [shal] at z
  | non => exact Rep.dp (A := A) m.sub n _ z h
  | bl b => exact Rep.dp (A := A) m.sub n _ z h
  | int b => exact Rep.dp (A := A) m.sub n _ z h
  | str b => exact Rep.dp (A := A) m.sub n _ z h
  | tup b => exact Rep.dp (A := A) m.sub n _ z h
  | stt => exact Rep.dp (A := A) m.sub n _ z h
/-- == of data -/
def deq (a b : D) : Bool := PyData.eqv a.toP b.toP
def eqD (a b : D) : M D := if (shal 40 a && shal 40 b) = true then M.ret (.bl (deq a b)) else M.no
def neD (a b : D) : M D := if (shal 40 a && shal 40 b) = true then M.ret (.bl (!deq a b)) else M.no
theorem eq_ok : OpD K mg E (rEqD K) eqD := by
  intro A H0 G0 σ en H G s x y dx dy Q m hx hy o
  unfold eqD at o
  by_cases hz : (shal 40 dx && shal 40 dy) = true
  · rw [if_pos hz] at o
    rw [Bool.and_eq_true] at hz
    exact ⟨_, _, hx.dp m hz.1, hy.dp m hz.2, shal_shaped (by decide) hz.1, shal_shaped (by decide) hz.2, og_ret m o rfl⟩
  · rw [if_neg hz] at o
    exact o.elim
theorem ne_ok : OpD K mg E (rNeD K) neD := by
  intro A H0 G0 σ en H G s x y dx dy Q m hx hy o
  unfold neD at o
  by_cases hz : (shal 40 dx && shal 40 dy) = true
  · rw [if_pos hz] at o
    rw [Bool.and_eq_true] at hz
    exact ⟨_, _, hx.dp m hz.1, hy.dp m hz.2, shal_shaped (by decide) hz.1, shal_shaped (by decide) hz.2, og_ret m o rfl⟩
  · rw [if_neg hz] at o
    exact o.elim

/-! ### items -/
def ixD : D → D → M D
  | .lst ds, .int i => M.opt (atI ds i)
  | .tup ds, .int i => M.opt (atI ds i)
  | _, _ => M.no
theorem Reps.atI {A : AA} {G : Hp} {xs : List V} {ds : List D} {i : Int} {d : D} (r : Reps K A G xs ds) (h : L2.atI ds i = some d) : ∃ v, L2.atI xs i = some v ∧ Rep K A G v d := by
  unfold L2.atI at h ⊢
  rw [r.length]
  cases e : ixN ds.length i with
  | none =>
    rw [e] at h
    cases h
  | some j =>
    rw [e] at h
    exact r.get h
theorem ix_ok : OpD K mg E (fun x y H Q => rIxL K x y H Q ∨ rIxT K x y H Q) ixD := by
  intro A H0 G0 σ en H G s x y dx dy Q m hx hy o
  unfold ixD at o
  split at o
  · rename_i ds i
    obtain ⟨p, xs, e1, h1, r1⟩ := hx
    cases q : L2.atI ds i with
    | none =>
      rw [q] at o
      exact o.elim
    | some d =>
      rw [q] at o
      obtain ⟨v, h3, h4⟩ := r1.atI q
      exact .inl ⟨p, xs, i, v, e1, hy, SqL.of h1, h3, og_ret m o h4⟩
  · rename_i ds i
    obtain ⟨p, xs, e1, h1, r1⟩ := hx
    cases q : L2.atI ds i with
    | none =>
      rw [q] at o
      exact o.elim
    | some d =>
      rw [q] at o
      obtain ⟨v, h3, h4⟩ := r1.atI q
      exact .inr ⟨p, xs, i, v, e1, hy, Same.tupq m.sub h1, h3, og_ret m o h4⟩
  · exact o.elim
theorem pd_ix {a b : Expr} {eva evb : EV} {pos : Pos} (ha : PB X E a eva) (hb : PB X E b evb) (hs : PlainIx b) : PD X E (.Subscript a b pos) (eBin ixD eva evb) :=
  ⟨pe_imp (pe_ix (ix_list.or ix_tup) ha.p hb.p hs) fun _ _ _ h => re_bin ix_ok h⟩

/-! ### slices -/
abbrev OV := Env → M (Option Int)
def RO (K : PySem.W.Frag) (mg : Str → Option Value) (E : XK) (ov : OV) : TO := fun σ H Q => ∃ A H0 G0 en G s, Mt K A H0 G0 σ en H G s ∧ Og K mg E A H0 G0 σ en H G (ov en s) fun b _ H' G' => Q b H'
structure POD (X : Cx) (E : XK) (e : Option Expr) (ov : OV) : Prop where
  p : PO X e (RO X.K X.mg E ov)
theorem po_imp {e : Option Expr} {t t' : TO} (h : PO X e t) (i : ∀ σ H Q, t' σ H Q → t σ H Q) : PO X e t' := ⟨fun pins s σ H Q I q => h.run pins s σ H Q I (i _ _ _ q)⟩
def oNone : OV := fun _ => M.ret none
def oSome (ev : EV) : OV := fun en => M.bind (ev en) fun d => match d with
  | .int i => M.ret (some i)
  | _ => M.no
theorem po_noneD : POD X E none oNone := ⟨po_imp po_none fun σ H Q ⟨A, H0, G0, en, G, s, m, o⟩ => o H G m .refl⟩
theorem po_someD {e : Expr} {ev : EV} (h : PD X E e ev) : POD X E (some e) (oSome ev) := by
  refine ⟨po_imp (po_some h.p) fun σ H Q ⟨A, H0, G0, en, G, s, m, o⟩ => ?_⟩
  refine ⟨A, H0, G0, en, G, s, m, (Og.bind o).mono fun d s1 H1 G1 m1 e1 o1 v r => ?_⟩
  cases d with
  | int k => exact ⟨k, r, o1 H1 G1 m1 .refl⟩
  | _ => exact o1.elim
/-- the cut of a list -/
def cut {α : Type} (xs : List α) (lo hi : Option Int) : List α := (xs.drop (HT.sIx xs.length 0 lo)).take (HT.sIx xs.length xs.length hi - HT.sIx xs.length 0 lo)
theorem Reps.cut {A : AA} {G : Hp} {xs : List V} {ds : List D} (r : Reps K A G xs ds) (lo hi : Option Int) : Reps K A G (cutV xs lo hi) (DL.cut ds lo hi) := by
  unfold cutV DL.cut
  rw [r.length]
  exact (r.drop _).take _
def slD (d : D) (lo hi : Option Int) : M D := match d with
  | .tup ds => M.ret (.tup (cut ds lo hi))
  | .lst ds => M.ret (.lst (cut ds lo hi))
  | _ => M.no
def eSl (ev : EV) (lo hi : OV) : EV := fun en => M.bind (ev en) fun d => M.bind (lo en) fun l => M.bind (hi en) fun h => slD d l h
theorem pd_sl {e : Expr} {lo hi : Option Expr} {ev : EV} {ol oh : OV} {p2 pos : Pos} (he : PB X E e ev) (hl : POD X E lo ol) (hh : POD X E hi oh) : PD X E (.Subscript e (.Slice lo hi none p2) pos) (eSl ev ol oh) := by
  refine ⟨pe_imp (pe_slice (sl_list.or sl_tupA) he.p hl.p hh.p) fun σ H Q ⟨A, H0, G0, en, G, s, m, o⟩ => ?_⟩
  refine ⟨A, H0, G0, en, G, s, m, (Og.bind o).mono fun d s1 H1 G1 m1 e1 o1 x nx => ?_⟩
  refine ⟨A, H0, G0, en, G1, s1, m1, (Og.bind o1).mono fun l s2 H2 G2 m2 e2 o2 => ?_⟩
  refine ⟨A, H0, G0, en, G2, s2, m2, (Og.bind o2).mono fun h s3 H3 G3 m3 e3 o3 => ?_⟩
  have n3 := (nx.go (e2.trans e3)).now m3
  unfold slD at o3
  split at o3
  · rename_i ds
    obtain ⟨a, xs, rfl, h1, r1⟩ := n3
    refine .inr ⟨a, xs, rfl, Same.tupq m3.sub h1, fun w => ?_, fun w => og_tup m3 o3 (r1.cut l h)⟩
    have e0 : DL.cut ds l h = ds := by
      unfold DL.cut
      rw [r1.length] at w
      rw [w.1, w.2, List.drop_zero, Nat.sub_zero, List.take_length]
    rw [e0] at o3
    exact og_ret m3 o3 ⟨a, xs, rfl, h1, r1⟩
  · obtain ⟨a, xs, rfl, h1, r1⟩ := n3
    exact .inl ⟨a, xs, rfl, SqL.of h1, og_lst m3 o3 (r1.cut l h)⟩
  · exact o3.elim

/-! ### built-ins -/
def D.len : D → Option Nat
  | .tup ds => some ds.length
  | .lst ds => some ds.length
  | _ => none
def lenF : List D → M D
  | [d] => match d with
    | .tup ds => M.ret (.int ds.length)
    | .lst ds => M.ret (.int ds.length)
    | _ => M.no
  | _ => M.no
theorem len_ok : CallD K mg E (fun xs H Q => ∃ p ys, xs = [.ref p] ∧ (SqL K H p ys ∨ SqT K H p ys) ∧ Q (.int ys.length) H) lenF := by
  intro A H0 G0 σ en H G s xs ds Q m hx o
  unfold lenF at o
  split at o
  · obtain ⟨x, r, rfl, h1, h2⟩ := hx
    cases (show r = [] from h2)
    split at o
    · obtain ⟨a, xs, rfl, h1, r1⟩ := h1
      exact ⟨a, xs, rfl, .inr (Same.tupq m.sub h1), by rw [r1.length]; exact og_ret m o rfl⟩
    · obtain ⟨a, xs, rfl, h1, r1⟩ := h1
      exact ⟨a, xs, rfl, .inl (SqL.of h1), by rw [r1.length]; exact og_ret m o rfl⟩
    · exact o.elim
  · exact o.elim
def absF : List D → M D
  | [.int i] => M.ret (.int (if i < 0 then -i else i))
  | _ => M.no
theorem abs_ok : CallD K mg E (fun xs H Q => ∃ i, xs = [.int i] ∧ Q (.int (if i < 0 then -i else i)) H) absF := by
  intro A H0 G0 σ en H G s xs ds Q m hx o
  unfold absF at o
  split at o
  · obtain ⟨x, r, rfl, h1, h2⟩ := hx
    cases (show r = [] from h2)
    exact ⟨_, by rw [show x = _ from h1], og_ret m o rfl⟩
  · exact o.elim
/-- int(n): of an int -/
def intF : List D → M D
  | [.int i] => M.ret (.int i)
  | [.bl b] => M.ret (.int (if b then 1 else 0))
  | _ => M.no
theorem int_ok : CallD K mg E (fun xs H Q => (∃ i, xs = [.int i] ∧ Q (.int i) H) ∨ ∃ k, xs = [.bl k] ∧ Q (.int (if k then 1 else 0)) H) intF := by
  intro A H0 G0 σ en H G s xs ds Q m hx o
  unfold intF at o
  split at o
  · obtain ⟨x, r, rfl, h1, h2⟩ := hx
    cases (show r = [] from h2)
    exact .inl ⟨_, by rw [show x = _ from h1], og_ret m o rfl⟩
  · obtain ⟨x, r, rfl, h1, h2⟩ := hx
    cases (show r = [] from h2)
    exact .inr ⟨_, by rw [show x = _ from h1], og_ret m o rfl⟩
  · exact o.elim
def D.ints : List D → Option (List Int)
  | [] => some []
  | .int i :: r => (D.ints r).map (i :: ·)
  | _ => none
theorem D.ints_eq : ∀ {ds : List D} {ns : List Int}, D.ints ds = some ns → ds = ns.map D.int
  | [], ns, h => by cases h; rfl
  | .int i :: r, ns, h => by
    unfold D.ints at h
    cases q : D.ints r with
    | none =>
      rw [q] at h
      cases h
    | some ms =>
      rw [q] at h
      cases h
      rw [D.ints_eq q]
      rfl
  | .non :: r, ns, h => by cases h
  | .bl _ :: r, ns, h => by cases h
  | .str _ :: r, ns, h => by cases h
  | .tup _ :: r, ns, h => by cases h
  | .lst _ :: r, ns, h => by cases h
  | .dK _ :: r, ns, h => by cases h
  | .dT _ :: r, ns, h => by cases h
  | .stt :: r, ns, h => by cases h
@[simp] theorem D.ints_map (ns : List Int) : D.ints (ns.map D.int) = some ns := by
  induction ns with
  | nil => rfl
  | cons n ns ih =>
    show (D.ints (ns.map D.int)).map (n :: ·) = some (n :: ns)
    rw [ih]
    rfl
def D.bls : List D → Option (List Bool)
  | [] => some []
  | .bl i :: r => (D.bls r).map (i :: ·)
  | _ => none
theorem D.bls_eq : ∀ {ds : List D} {ns : List Bool}, D.bls ds = some ns → ds = ns.map D.bl
  | [], ns, h => by cases h; rfl
  | .bl i :: r, ns, h => by
    unfold D.bls at h
    cases q : D.bls r with
    | none =>
      rw [q] at h
      cases h
    | some ms =>
      rw [q] at h
      cases h
      rw [D.bls_eq q]
      rfl
  | .non :: r, ns, h => by cases h
  | .int _ :: r, ns, h => by cases h
  | .str _ :: r, ns, h => by cases h
  | .tup _ :: r, ns, h => by cases h
  | .lst _ :: r, ns, h => by cases h
  | .dK _ :: r, ns, h => by cases h
  | .dT _ :: r, ns, h => by cases h
  | .stt :: r, ns, h => by cases h
@[simp] theorem D.bls_map (ns : List Bool) : D.bls (ns.map D.bl) = some ns := by
  induction ns with
  | nil => rfl
  | cons n ns ih =>
    show (D.bls (ns.map D.bl)).map (n :: ·) = some (n :: ns)
    rw [ih]
    rfl
/-- one list of the argument -/
theorem NowL.one {A : AA} {H G : Hp} {xs : List V} {d : D} (h : NowL K A H G xs [d]) : ∃ x, xs = [x] ∧ Now K A H G x d := by
  obtain ⟨x, r, rfl, h1, h2⟩ := h
  cases (show r = [] from h2)
  exact ⟨x, rfl, h1⟩
theorem NowL.two {A : AA} {H G : Hp} {xs : List V} {d e : D} (h : NowL K A H G xs [d, e]) : ∃ x y, xs = [x, y] ∧ Now K A H G x d ∧ Now K A H G y e := by
  obtain ⟨x, r, rfl, h1, h2⟩ := h
  obtain ⟨y, rfl, h3⟩ := NowL.one h2
  exact ⟨x, y, rfl, h1, h3⟩
def allF : List D → M D
  | [.lst ds] => M.bind (M.opt (D.bls ds)) fun bs => M.ret (.bl (bs.all id))
  | _ => M.no
def anyF : List D → M D
  | [.lst ds] => M.bind (M.opt (D.bls ds)) fun bs => M.ret (.bl (bs.any id))
  | _ => M.no
theorem all_ok : CallD K mg E (rAll K) allF := by
  intro A H0 G0 σ en H G s xs ds Q m hx o
  unfold allF at o
  split at o
  · obtain ⟨x, rfl, a, ys, rfl, h1, r1⟩ := hx.one
    rename_i ds
    cases hb : D.bls ds with
    | none => rw [hb] at o; exact o.elim
    | some bs =>
      rw [hb] at o
      rw [D.bls_eq hb] at r1
      rw [r1.bls] at h1
      exact ⟨a, bs, rfl, SqL.of h1, og_ret m o rfl⟩
  · exact o.elim
theorem any_ok : CallD K mg E (rAny K) anyF := by
  intro A H0 G0 σ en H G s xs ds Q m hx o
  unfold anyF at o
  split at o
  · obtain ⟨x, rfl, a, ys, rfl, h1, r1⟩ := hx.one
    rename_i ds
    cases hb : D.bls ds with
    | none => rw [hb] at o; exact o.elim
    | some bs =>
      rw [hb] at o
      rw [D.bls_eq hb] at r1
      rw [r1.bls] at h1
      exact ⟨a, bs, rfl, SqL.of h1, og_ret m o rfl⟩
  · exact o.elim
def sumF : List D → M D
  | [.lst ds] => M.bind (M.opt (D.ints ds)) fun bs => M.ret (.int bs.sum)
  | _ => M.no
theorem sum_ok : CallD K mg E (rSum K) sumF := by
  intro A H0 G0 σ en H G s xs ds Q m hx o
  unfold sumF at o
  split at o
  · obtain ⟨x, rfl, a, ys, rfl, h1, r1⟩ := hx.one
    rename_i ds
    cases hb : D.ints ds with
    | none => rw [hb] at o; exact o.elim
    | some bs =>
      rw [hb] at o
      rw [D.ints_eq hb] at r1
      rw [r1.ints] at h1
      exact ⟨a, bs, rfl, SqL.of h1, og_ret m o rfl⟩
  · exact o.elim
def maxI : List Int → Int
  | [] => 0
  | [x] => x
  | x :: r => max x (maxI r)
def minI : List Int → Int
  | [] => 0
  | [x] => x
  | x :: r => min x (minI r)
theorem maxI_spec : ∀ (ns : List Int), 0 < ns.length → maxI ns ∈ ns ∧ ∀ y ∈ ns, y ≤ maxI ns
  | [], h => absurd h (Nat.lt_irrefl 0)
  | [x], _ => ⟨List.mem_singleton.mpr rfl, fun y hy => by rw [List.mem_singleton.mp hy]; exact Int.le_refl _⟩
  | x :: y :: r, _ => by
    obtain ⟨h1, h2⟩ := maxI_spec (y :: r) (Nat.succ_pos _)
    have e : maxI (x :: y :: r) = max x (maxI (y :: r)) := rfl
    rw [e]
    refine ⟨?_, fun z hz => ?_⟩
    · by_cases hh : x ≤ maxI (y :: r)
      · rw [show max x (maxI (y :: r)) = maxI (y :: r) by omega]
        exact List.mem_cons_of_mem _ h1
      · rw [show max x (maxI (y :: r)) = x by omega]
        exact List.mem_cons_self
    · rcases List.mem_cons.mp hz with q | q
      · omega
      · have := h2 z q
        omega
theorem minI_spec : ∀ (ns : List Int), 0 < ns.length → minI ns ∈ ns ∧ ∀ y ∈ ns, minI ns ≤ y
  | [], h => absurd h (Nat.lt_irrefl 0)
  | [x], _ => ⟨List.mem_singleton.mpr rfl, fun y hy => by rw [List.mem_singleton.mp hy]; exact Int.le_refl _⟩
  | x :: y :: r, _ => by
    obtain ⟨h1, h2⟩ := minI_spec (y :: r) (Nat.succ_pos _)
    have e : minI (x :: y :: r) = min x (minI (y :: r)) := rfl
    rw [e]
    refine ⟨?_, fun z hz => ?_⟩
    · by_cases hh : minI (y :: r) ≤ x
      · rw [show min x (minI (y :: r)) = minI (y :: r) by omega]
        exact List.mem_cons_of_mem _ h1
      · rw [show min x (minI (y :: r)) = x by omega]
        exact List.mem_cons_self
    · rcases List.mem_cons.mp hz with q | q
      · omega
      · have := h2 z q
        omega
def maxF : List D → M D
  | [.lst ds] => M.bind (M.opt (D.ints ds)) fun ns => if ns.isEmpty = true then M.no else M.ret (.int (maxI ns))
  | _ => M.no
def minF : List D → M D
  | [.lst ds] => M.bind (M.opt (D.ints ds)) fun ns => if ns.isEmpty = true then M.no else M.ret (.int (minI ns))
  | _ => M.no
theorem max_ok : CallD K mg E (rMax K) maxF := by
  intro A H0 G0 σ en H G s xs ds Q m hx o
  unfold maxF at o
  split at o
  · obtain ⟨x, rfl, a, ys, rfl, h1, r1⟩ := hx.one
    rename_i ds
    cases hb : D.ints ds with
    | none => rw [hb] at o; exact o.elim
    | some ns =>
     cases ns with
     | nil => rw [hb] at o; exact o.elim
     | cons n ns =>
      rw [hb] at o
      rw [D.ints_eq hb] at r1
      rw [r1.ints] at h1
      obtain ⟨z1, z2⟩ := maxI_spec (n :: ns) (Nat.succ_pos _)
      refine ⟨a, n :: ns, rfl, SqL.of h1, Nat.succ_pos _, fun k hk hle => ?_⟩
      have e : k = maxI (n :: ns) := Int.le_antisymm (z2 k hk) (hle _ z1)
      rw [e]
      exact og_ret m o rfl
  · exact o.elim
theorem min_ok : CallD K mg E (rMin K) minF := by
  intro A H0 G0 σ en H G s xs ds Q m hx o
  unfold minF at o
  split at o
  · obtain ⟨x, rfl, a, ys, rfl, h1, r1⟩ := hx.one
    rename_i ds
    cases hb : D.ints ds with
    | none => rw [hb] at o; exact o.elim
    | some ns =>
     cases ns with
     | nil => rw [hb] at o; exact o.elim
     | cons n ns =>
      rw [hb] at o
      rw [D.ints_eq hb] at r1
      rw [r1.ints] at h1
      obtain ⟨z1, z2⟩ := minI_spec (n :: ns) (Nat.succ_pos _)
      refine ⟨a, n :: ns, rfl, SqL.of h1, Nat.succ_pos _, fun k hk hle => ?_⟩
      have e : k = minI (n :: ns) := Int.le_antisymm (hle _ z1) (z2 k hk)
      rw [e]
      exact og_ret m o rfl
  · exact o.elim
/-- max(a, b), min(a, b) -/
def max2F : List D → M D
  | [.int i, .int j] => M.ret (.int (if j > i then j else i))
  | _ => M.no
def min2F : List D → M D
  | [.int i, .int j] => M.ret (.int (if j < i then j else i))
  | _ => M.no
theorem max2_ok : CallD K mg E (fun xs H Q => ∃ i j, xs = [.int i, .int j] ∧ Q (.int (if j > i then j else i)) H) max2F := by
  intro A H0 G0 σ en H G s xs ds Q m hx o
  unfold max2F at o
  split at o
  · obtain ⟨x, y, rfl, h1, h2⟩ := hx.two
    exact ⟨_, _, by rw [show x = _ from h1, show y = _ from h2], og_ret m o rfl⟩
  · exact o.elim
theorem min2_ok : CallD K mg E (fun xs H Q => ∃ i j, xs = [.int i, .int j] ∧ Q (.int (if j < i then j else i)) H) min2F := by
  intro A H0 G0 σ en H G s xs ds Q m hx o
  unfold min2F at o
  split at o
  · obtain ⟨x, y, rfl, h1, h2⟩ := hx.two
    exact ⟨_, _, by rw [show x = _ from h1, show y = _ from h2], og_ret m o rfl⟩
  · exact o.elim
/-- tuple(xs), list(xs) -/
def tupleF : List D → M D
  | [.lst ds] => M.ret (.tup ds)
  | [.tup ds] => M.ret (.tup ds)
  | _ => M.no
def listF : List D → M D
  | [.lst ds] => M.ret (.lst ds)
  | [.tup ds] => M.ret (.lst ds)
  | _ => M.no
theorem tuple_ok : CallD K mg E (fun xs H Q => ∃ p ys, xs = [.ref p] ∧ ((SqL K H p ys ∧ ∀ l, H l = none → Q (.ref l) (upd H l (.tup ys))) ∨ (SqT K H p ys ∧ Q (.ref p) H))) tupleF := by
  intro A H0 G0 σ en H G s xs ds Q m hx o
  unfold tupleF at o
  split at o
  · obtain ⟨x, rfl, a, ys, rfl, h1, r1⟩ := hx.one
    exact ⟨a, ys, rfl, .inl ⟨SqL.of h1, og_tup m o r1⟩⟩
  · obtain ⟨x, rfl, a, ys, rfl, h1, r1⟩ := hx.one
    exact ⟨a, ys, rfl, .inr ⟨Same.tupq m.sub h1, og_ret m o ⟨a, ys, rfl, h1, r1⟩⟩⟩
  · exact o.elim
theorem list_ok : CallF K mg E (fun xs H Q => ∃ p ys, xs = [.ref p] ∧ (SqL K H p ys ∨ SqT K H p ys) ∧ ∀ l, H l = none → Q (.ref l) (upd H l (.lst ys))) listF := by
  intro A H0 G0 σ en H G s xs ds Q m hx o
  unfold listF at o
  split at o
  · obtain ⟨x, rfl, a, ys, rfl, h1, r1⟩ := hx.one
    exact ⟨a, ys, rfl, .inl (SqL.of h1), og_lstF m o r1⟩
  · obtain ⟨x, rfl, a, ys, rfl, h1, r1⟩ := hx.one
    exact ⟨a, ys, rfl, .inr (Same.tupq m.sub h1), og_lstF m o r1⟩
  · exact o.elim

/-! ### isinstance -/
def D.ty : D → Option String
  | .non => some "NoneType"
  | .bl _ => some "bool"
  | .int _ => some "int"
  | .str _ => some "str"
  | .tup _ => some "tuple"
  | .lst _ => some "list"
  | .dK _ => some "dict"
  | .dT _ => some "dict"
  | .stt => none
theorem SqT.ty {H : Hp} {a : Addr} {xs : List V} (h : SqT K H a xs) : TyX K H (.ref a) (.type "tuple") := by
  rcases h with (h | ⟨o, h⟩) | ⟨o, its, n, h, c, _⟩
  · exact .base (.tup h)
  · exact .fTuple h
  · exact .kTuple h c
theorem Now.ty {A : AA} {H0 G0 H G : Hp} {σ : L2.St} {en : Env} {s : LS} (m : Mt K A H0 G0 σ en H G s) {x : V} {d : D} {t : String} (h : Now K A H G x d) (e : d.ty = some t) : TyX K H x (.type t) := by
  cases d with
  | non => cases e; cases (show x = _ from h); exact .base .non
  | bl b => cases e; cases (show x = _ from h); exact .base (.bl b)
  | int b => cases e; cases (show x = _ from h); exact .base (.int b)
  | str b => cases e; cases (show x = _ from h); exact .base (.str b)
  | tup b => cases e; obtain ⟨a, xs, rfl, h1, _⟩ := h; exact SqT.ty (Same.tupq m.sub h1)
  | lst b => cases e; obtain ⟨a, xs, rfl, h1, _⟩ := h; exact .base (.lst h1)
  | dK b => cases e; obtain ⟨a, xs, rfl, h1, _⟩ := h; exact .base (.dK h1)
  | dT b => cases e; obtain ⟨a, xs, rfl, h1, _⟩ := h; exact .base (.dT h1)
  | stt => cases e
/-- isinstance(x, int) and the like: the class's name written -/
def isiD (n : String) (d : D) : M D := match d.ty with
  | some t => match kitB t n with
    | some b => M.ret (.bl b)
    | none => M.no
  | none => M.no
def eIsi (n : String) (ev : EV) : EV := fun en => M.bind (ev en) (isiD n)
theorem pd_isi {n : String} {e : Expr} {ev : EV} {x c : Str} {p pc pos : Pos} (he : PB X E e ev) (hg : Gl X x) (hm : X.mg x = none) (hv : bootBuiltins x = some (.builtin "isinstance")) (hgc : Gl X c) (hmc : X.mg c = none) (hvc : bootBuiltins c = some (.type n))
    (hn : x ≠ "__name__" := by decide) (hdb : (x == ("__debug__" : Str)) = false := by decide) (hnc : c ≠ "__name__" := by decide) (hdbc : (c == ("__debug__" : Str)) = false := by decide)
    (hs : starEach (e :: [.Name c pc]) X.env = (false, eval e X.env) :: starEach [.Name c pc] X.env := by rfl) (hs2 : starEach [.Name c pc] X.env = (false, eval (.Name c pc) X.env) :: starEach [] X.env := by rfl) (hpl : (backTo pos (starEach [.Name c pc] X.env)).any (·.1) = false := by rfl) :
    PD X E (.Call (.Name x p) [e, .Name c pc] [] pos) (eIsi n ev) := by
  refine ⟨pe_imp (pe_callB call_isi hg hm hv (pa_cons he.p (pa_cons (pe_bltn (v := .ty n) hgc hmc hvc rfl hnc hdbc) pa_nil hs2) hs) hn hdb hs hpl) fun σ H Q ⟨A, H0, G0, en, G, s, m, o⟩ => ?_⟩
  refine ⟨A, H0, G0, en, G, s, m, (Og.bind o).mono fun d s1 H1 G1 m1 e1 o1 v nv => ?_⟩
  unfold isiD at o1
  cases ht : d.ty with
  | none =>
    rw [ht] at o1
    exact o1.elim
  | some t =>
    rw [ht] at o1
    cases hk : kitB t n with
    | none =>
      simp only [hk] at o1
      exact o1.elim
    | some b =>
      simp only [hk] at o1
      exact ⟨v, .ty n, .type t, .type n, b, rfl, .ty n, (nv.now m1).ty m1 ht, kit_ty hk, og_ret m1 o1 rfl⟩
end
end DL

set_option Elab.async false
set_option linter.all false
set_option maxRecDepth 100000
set_option maxHeartbeats 4000000
/-! Statements, loops, comprehensions, defs by data. -/
namespace DL
open PySem PySem.Spec PyProof.Rows L2

inductive Fl where
  | nx (en : Env)
  | rt (d : D)
  | bk (en : Env)
  | ct (en : Env)
abbrev SV := Env → M Fl
def Os (K : PySem.W.Frag) (mg : Str → Option Value) (E : XK) (A : AA) (H0 G0 G : Hp) (o : Out Fl) (T : Ends) : Prop := match o with
  | .ok (.nx en) s' => ∀ σ' H' G', Mt K A H0 G0 σ' en H' G' s' → Same G G' → T.nx σ' H'
  | .ok (.rt d) s' => ∀ v H' G', Ext A H0 G0 H' G' → Same G' H' → StOk A H' G' s' → Rep K A G' v d → T.rt v H'
  | .ok (.bk en) s' => ∀ σ' H' G', Mt K A H0 G0 σ' en H' G' s' → Same G G' → T.bk σ' H'
  | .ok (.ct en) s' => ∀ σ' H' G', Mt K A H0 G0 σ' en H' G' s' → Same G G' → T.ct σ' H'
  | .exc x s' => ∀ H' G' cls oe, Ext A H0 G0 H' G' → Same G' H' → StOk A H' G' s' → ExAt mg H' cls oe x → E cls oe H'
  | .bad => False
def RS (K : PySem.W.Frag) (mg : Str → Option Value) (E : XK) (sv : SV) : TS := fun T σ H => ∃ A H0 G0 en G s, Mt K A H0 G0 σ en H G s ∧ Os K mg E A H0 G0 G (sv en s) T
theorem ps_imp {X : Cx} {e : Stmt} {t t' : TS} (h : PS X e t) (i : ∀ T σ H, t' T σ H → t T σ H) : PS X e t' := ⟨fun pins s σ H Q I q => h.run pins s σ H Q I (i _ _ _ q)⟩
theorem pss_imp {X : Cx} {e : List Stmt} {t t' : TS} (h : PSs X e t) (i : ∀ T σ H, t' T σ H → t T σ H) : PSs X e t' := ⟨fun pins s σ H Q I q => h.run pins s σ H Q I (i _ _ _ q)⟩
structure PSD (X : Cx) (E : XK) (e : Stmt) (sv : SV) : Prop where
  p : PS X e (RS X.K X.mg E sv)
structure PSsD (X : Cx) (E : XK) (e : List Stmt) (sv : SV) : Prop where
  p : PSs X e (RS X.K X.mg E sv)
section
variable {K : PySem.W.Frag} {mg : Str → Option Value} {E : XK} {A : AA} {H0 G0 H G H1 G1 : Hp} {σ σ1 : L2.St} {en en1 : Env} {s s1 : LS} {T T' : Ends}
theorem Os.go {o : Out Fl} (h : Os K mg E A H0 G0 G o T) (e : Same G G1) : Os K mg E A H0 G0 G1 o T := by
  cases o with
  | ok a s' => cases a with
    | nx en => exact fun σ' H' G' m e' => h σ' H' G' m (e.trans e')
    | rt d => exact h
    | bk en => exact fun σ' H' G' m e' => h σ' H' G' m (e.trans e')
    | ct en => exact fun σ' H' G' m e' => h σ' H' G' m (e.trans e')
  | exc x s' => exact h
  | bad => exact h
/-- an expression's outcome ahead of a statement's -/
theorem Os.bind {α : Type} {m : M α} {f : α → M Fl} (h : Os K mg E A H0 G0 G (M.bind m f s) T) : Og K mg E A H0 G0 σ en H G (m s) fun a s' H' G' => Os K mg E A H0 G0 G' (f a s') T := by
  unfold M.bind at h
  cases e : m s with
  | ok a s' =>
    rw [e] at h
    exact fun H' G' mt ex => Os.go h ex.g
  | exc x s' =>
    rw [e] at h
    exact h
  | bad =>
    rw [e] at h
    exact h
end
def sNil : SV := fun en => M.ret (.nx en)
def sSeq (a b : SV) : SV := fun en => M.bind (a en) fun f => match f with
  | .nx en1 => b en1
  | f => M.ret f
section
variable {X : Cx} {E : XK} {st : Stmt} {rest body orelse : List Stmt} {sv sa sb : SV} {e c : Expr} {ev : EV} {tv : TV} {pos : Pos}
theorem pss_nilD : PSsD X E [] sNil := ⟨pss_imp pss_nil fun T σ H ⟨A, H0, G0, en, G, s, m, o⟩ => o σ H G m (.refl G)⟩
theorem pss_consD (h1 : PSD X E st sa) (h2 : PSsD X E rest sb) : PSsD X E (st :: rest) (sSeq sa sb) := by
  refine ⟨pss_imp (pss_cons h1.p h2.p) fun T σ H ⟨A, H0, G0, en, G, s, m, o⟩ => ⟨A, H0, G0, en, G, s, m, ?_⟩⟩
  unfold sSeq M.bind at o
  cases q : sa en s with
  | ok f s1 =>
    rw [q] at o
    cases f with
    | nx en1 => exact fun σ' H' G' m' e' => ⟨A, H0, G0, en1, G', s1, m', Os.go o e'⟩
    | rt d => exact o
    | bk en1 => exact o
    | ct en1 => exact o
  | exc x s1 =>
    rw [q] at o
    exact o
  | bad =>
    rw [q] at o
    exact o
theorem pss_oneD (h1 : PSD X E st sa) : PSsD X E [st] sa := ⟨pss_one h1.p⟩
def sBreak : SV := fun en => M.ret (.bk en)
def sCont : SV := fun en => M.ret (.ct en)
theorem ps_passD : PSD X E (.Pass pos) sNil := ⟨ps_imp ps_pass fun T σ H ⟨A, H0, G0, en, G, s, m, o⟩ => o σ H G m (.refl G)⟩
theorem ps_breakD : PSD X E (.Break pos) sBreak := ⟨ps_imp ps_break fun T σ H ⟨A, H0, G0, en, G, s, m, o⟩ => o σ H G m (.refl G)⟩
theorem ps_contD : PSD X E (.Continue pos) sCont := ⟨ps_imp ps_continue fun T σ H ⟨A, H0, G0, en, G, s, m, o⟩ => o σ H G m (.refl G)⟩
theorem ps_docD {x : Str} {j : Nat} {pos'} : PSD X E (.Expr (.Constant (.str x) j pos) pos') sNil := ⟨ps_imp ps_doc fun T σ H ⟨A, H0, G0, en, G, s, m, o⟩ => o σ H G m (.refl G)⟩
def sExpr (ev : EV) : SV := fun en => M.bind (ev en) fun _ => M.ret (.nx en)
theorem RB.of {K mg} {Q : VK} {σ : L2.St} {H : Hp} (h : RE K mg E ev σ H Q) : RE K mg E ev σ H Q := h
theorem ps_exprD (he : PD X E e ev) (hs : swapsWith e none pos.line X.env = pure false := by rfl) : PSD X E (.Expr e pos) (sExpr ev) := by
  refine ⟨ps_imp (ps_expr he.p hs) fun T σ H ⟨A, H0, G0, en, G, s, m, o⟩ => ⟨A, H0, G0, en, G, s, m, ?_⟩⟩
  exact (Os.bind o).mono fun d s1 H1 G1 m1 e1 o1 v r => o1 σ H1 G1 m1 (.refl G1)
def sRet (ev : EV) : SV := fun en => M.bind (ev en) fun d => M.ret (.rt d)
theorem ps_retD (he : PD X E e ev) : PSD X E (.Return (some e) pos) (sRet ev) := by
  refine ⟨ps_imp (ps_ret he.p) fun T σ H ⟨A, H0, G0, en, G, s, m, o⟩ => ⟨A, H0, G0, en, G, s, m, ?_⟩⟩
  exact (Os.bind o).mono fun d s1 H1 G1 m1 e1 o1 v r => o1 v H1 G1 m1.ext m1.sub m1.st r
def sRetN : SV := fun _ => M.ret (.rt .non)
theorem ps_retND : PSD X E (.Return none pos) sRetN := ⟨ps_imp ps_retN fun T σ H ⟨A, H0, G0, en, G, s, m, o⟩ => o .non H G m.ext m.sub m.st rfl⟩
def sIf (t : TV) (a b : SV) : SV := fun en => M.bind (t en) fun k => if k = true then a en else b en
theorem ps_ifD (hc : PTD X E c tv) (ha : PSsD X E body sa) (hb : PSsD X E orelse sb) : PSD X E (.If c body orelse pos) (sIf tv sa sb) := by
  refine ⟨ps_imp (ps_if hc.p ha.p hb.p) fun T σ H ⟨A, H0, G0, en, G, s, m, o⟩ => ⟨A, H0, G0, en, G, s, m, ?_⟩⟩
  refine (Os.bind o).mono fun k s1 H1 G1 m1 e1 o1 => ?_
  cases k with
  | true => exact ⟨A, H0, G0, en, G1, s1, m1, o1⟩
  | false => exact ⟨A, H0, G0, en, G1, s1, m1, o1⟩
end

/-! ### stores -/
section
variable {K : PySem.W.Frag} {mg : Str → Option Value} {E : XK} {A : AA} {H0 G0 H G H1 G1 : Hp} {σ : L2.St} {en : Env} {s : LS}
theorem slot_set {en : Env} {i j : Nat} {x : Slot} : slot (en.set i x) j = if i = j ∧ i < en.length then x else slot en j := by
  unfold slot
  by_cases h : i = j
  · subst h
    by_cases h2 : i < en.length
    · rw [List.getElem?_set_self h2, if_pos ⟨rfl, h2⟩]
      rfl
    · rw [if_neg (fun z => h2 z.2), List.getElem?_eq_none (by rw [List.length_set]; omega), List.getElem?_eq_none (by omega)]
  · rw [List.getElem?_set_ne h, if_neg (fun z => h z.1)]
theorem Mt.set (m : Mt K A H0 G0 σ en H G s) {i : Nat} {v : V} {x : Slot} (r : SlotR K A H0 H G (some (some v)) x) (hd : x.own = true → ∀ j, i ≠ j → (slot en j).own = true → σ[j]? ≠ some (some v)) : Mt K A H0 G0 (σ.set i (some v)) (en.set i x) H G s := by
  by_cases hi : i < en.length
  · have hi2 : i < σ.length := by rw [m.len]; exact hi
    refine ⟨by rw [List.length_set, List.length_set, m.len], fun j => ?_, fun j k hjk h1 h2 => ?_, m.sub, m.ext, m.st⟩
    · rw [slot_set]
      by_cases hj : i = j
      · subst hj
        rw [if_pos ⟨rfl, hi⟩, List.getElem?_set_self hi2]
        exact r
      · rw [if_neg (fun z => hj z.1), List.getElem?_set_ne hj]
        exact m.sl j
    · rw [slot_set] at h1 h2
      by_cases hj : i = j
      · subst hj
        rw [if_pos ⟨rfl, hi⟩] at h1
        rw [if_neg (fun z => hjk z.1)] at h2
        rw [List.getElem?_set_self hi2, List.getElem?_set_ne hjk]
        exact (hd h1 k hjk h2).symm
      · rw [if_neg (fun z => hj z.1)] at h1
        by_cases hk : i = k
        · subst hk
          rw [if_pos ⟨rfl, hi⟩] at h2
          rw [List.getElem?_set_self hi2, List.getElem?_set_ne hj]
          exact hd h2 j hj h1
        · rw [if_neg (fun z => hk z.1)] at h2
          rw [List.getElem?_set_ne hj, List.getElem?_set_ne hk]
          exact m.dist j k hjk h1 h2
  · rw [List.set_eq_of_length_le (show σ.length ≤ i by rw [m.len]; omega), List.set_eq_of_length_le (show en.length ≤ i by omega)]
    exact m
theorem Mt.setS (m : Mt K A H0 G0 σ en H G s) {i : Nat} {v : V} {d : D} (r : Rep K A G v d) : Mt K A H0 G0 (σ.set i (some v)) (en.set i (.sh d)) H G s := m.set ⟨v, rfl, r⟩ fun z => nomatch z
/-- the slot of an own one -/
def Slot.ofD : D → Slot
  | .lst ds => .ow ds
  | .dK ds => .owK ds
  | .dT ds => .owT ds
  | _ => .un
theorem Mt.own_at (m : Mt K A H0 G0 σ en H G s) {j : Nat} (h : (slot en j).own = true) : ∃ a, σ[j]? = some (some (.ref a)) ∧ H a ≠ none ∧ G a = none ∧ H0 a = none ∧ NotA A a := by
  have z := m.sl j
  cases q : slot en j with
  | un =>
    rw [q] at h
    cases h
  | sh d =>
    rw [q] at h
    cases h
  | ow d =>
    rw [q] at z
    obtain ⟨a, xs, h1, h2, h3, h4, h5, h6⟩ := z
    exact ⟨a, h1, by rw [h2]; exact Option.some_ne_none _, h3, h4, h5⟩
  | owK d =>
    rw [q] at z
    obtain ⟨a, xs, h1, h2, h3, h4, h5, h6⟩ := z
    exact ⟨a, h1, by rw [h2]; exact Option.some_ne_none _, h3, h4, h5⟩
  | owT d =>
    rw [q] at z
    obtain ⟨a, xs, h1, h2, h3, h4, h5, h6⟩ := z
    exact ⟨a, h1, by rw [h2]; exact Option.some_ne_none _, h3, h4, h5⟩
/-- a new one is stored as one's own -/
theorem Mt.setF (m0 : Mt K A H0 G0 σ en H G s) {s1 : LS} (m : Mt K A H0 G0 σ en H1 G1 s1) {i : Nat} {p : Addr} {d : D} (hp : H p = none) (r : FrO K A H1 G1 p d) : Mt K A H0 G0 (σ.set i (some (.ref p))) (en.set i (Slot.ofD d)) H1 G1 s1 := by
  have h0 := m0.a0 hp
  have hA := m0.nA hp
  refine m.set ?_ fun _ j hj ho z => ?_
  · cases d with
    | lst ds =>
      obtain ⟨h1, xs, h2, h3⟩ := r
      exact ⟨p, xs, rfl, h2, h1, h0, hA, h3⟩
    | dK ds =>
      obtain ⟨h1, xs, h2, h3⟩ := r
      exact ⟨p, xs, rfl, h2, h1, h0, hA, h3⟩
    | dT ds =>
      obtain ⟨h1, xs, h2, h3⟩ := r
      exact ⟨p, xs, rfl, h2, h1, h0, hA, h3⟩
    | _ => exact trivial
  · obtain ⟨a, h1, h2, _⟩ := m0.own_at ho
    rw [h1] at z
    cases z
    exact h2 hp
/-- one's own is written -/
theorem Mt.wr (m : Mt K A H0 G0 σ en H G s) {i : Nat} {a : Addr} {o : HO} {x : Slot} (hi : i < en.length) (ho : (slot en i).own = true) (ha : σ[i]? = some (some (.ref a))) (hx : x.own = true) (r : SlotR K A H0 (upd H a o) G (some (some (.ref a))) x) : Mt K A H0 G0 σ (en.set i x) (upd H a o) G s := by
  obtain ⟨b, h1, h2, h3, h4, h5⟩ := m.own_at ho
  rw [ha] at h1
  cases h1
  have e : Ext A H0 G0 (upd H a o) G := ⟨m.ext.g, fun c u q n => by
      rw [upd_ne (fun z => by rw [z, h4] at q; cases q)]
      exact m.ext.h c u q n, m.ext.n, fun c q => by
      by_cases hc : c = a
      · rw [hc, upd_same]
        exact Option.some_ne_none _
      · rw [upd_ne hc]
        exact m.ext.t c q⟩
  have keep : ∀ c u, c ≠ a → H c = some u → upd H a o c = some u := fun c u hc q => by
    rw [upd_ne hc]
    exact q
  refine ⟨by rw [List.length_set, m.len], fun j => ?_, fun j k hjk q1 q2 => ?_, fun c u q => ?_, e, m.st.upd h5⟩
  · rw [slot_set]
    by_cases hj : i = j
    · subst hj
      rw [if_pos ⟨rfl, hi⟩, ha]
      exact r
    · rw [if_neg (fun z => hj z.1)]
      have z := m.sl j
      have dj : (slot en j).own = true → σ[i]? ≠ σ[j]? := fun q => m.dist i j hj ho q
      cases q : slot en j with
      | un => exact trivial
      | sh d =>
        rw [q] at z
        exact z
      | ow d =>
        rw [q] at z dj
        obtain ⟨b, xs, g1, g2, g3⟩ := z
        refine ⟨b, xs, g1, keep b _ (fun w => dj rfl ?_) g2, g3⟩
        rw [g1, ha, w]
      | owK d =>
        rw [q] at z dj
        obtain ⟨b, xs, g1, g2, g3⟩ := z
        refine ⟨b, xs, g1, keep b _ (fun w => dj rfl ?_) g2, g3⟩
        rw [g1, ha, w]
      | owT d =>
        rw [q] at z dj
        obtain ⟨b, xs, g1, g2, g3⟩ := z
        refine ⟨b, xs, g1, keep b _ (fun w => dj rfl ?_) g2, g3⟩
        rw [g1, ha, w]
  · have back : ∀ l, (slot (en.set i x) l).own = true → (slot en l).own = true := fun l q => by
      rw [slot_set] at q
      by_cases hl : i = l
      · rw [← hl]
        exact ho
      · rw [if_neg (fun z => hl z.1)] at q
        exact q
    exact m.dist j k hjk (back j q1) (back k q2)
  · have z := m.sub c u q
    by_cases hc : c = a
    · rw [hc, h3] at q
      cases q
    · exact keep c u hc z
/-- one's own is frozen -/
def frzS : Slot → Slot
  | .ow ds => .sh (.lst ds)
  | .owK ds => .sh (.dK ds)
  | .owT ds => .sh (.dT ds)
  | x => x
theorem Mt.frz (m : Mt K A H0 G0 σ en H G s) (i : Nat) : ∃ G', Mt K A H0 G0 σ (en.set i (frzS (slot en i))) H G' s ∧ Same G G' := by
  by_cases ho : (slot en i).own = true
  · obtain ⟨a, h1, h2, h3, h4, h5⟩ := m.own_at ho
    obtain ⟨o, ho2⟩ := Option.ne_none_iff_exists'.mp h2
    have e : Same G (upd G a o) := Same.upd h3
    refine ⟨upd G a o, ⟨by rw [List.length_set, m.len], fun j => ?_, fun j k hjk q1 q2 => ?_, fun c u q => ?_, ⟨m.ext.g.trans e, m.ext.h, fun c q => ?_, m.ext.t⟩, m.st.updG h5⟩, e⟩
    · rw [slot_set]
      by_cases hj : i = j
      · subst hj
        have z := m.sl i
        by_cases hi : i < en.length
        · rw [if_pos ⟨rfl, hi⟩]
          cases q : slot en i with
          | un => exact trivial
          | sh d =>
            rw [q] at ho
            cases ho
          | ow d =>
            rw [q] at z
            obtain ⟨b, xs, g1, g2, g3, g4, g5, g6⟩ := z
            rw [h1] at g1
            cases g1
            rw [ho2] at g2
            cases g2
            exact ⟨.ref a, h1, a, xs, rfl, upd_same, Reps.mono e d g6⟩
          | owK d =>
            rw [q] at z
            obtain ⟨b, xs, g1, g2, g3, g4, g5, g6⟩ := z
            rw [h1] at g1
            cases g1
            rw [ho2] at g2
            cases g2
            exact ⟨.ref a, h1, a, xs, rfl, upd_same, RepK.mono e d g6⟩
          | owT d =>
            rw [q] at z
            obtain ⟨b, xs, g1, g2, g3, g4, g5, g6⟩ := z
            rw [h1] at g1
            cases g1
            rw [ho2] at g2
            cases g2
            exact ⟨.ref a, h1, a, xs, rfl, upd_same, RepT.mono e d g6⟩
        · have hs : slot en i = .un := by
            unfold slot
            rw [List.getElem?_eq_none (by omega)]
            rfl
          rw [hs] at ho
          cases ho
      · rw [if_neg (fun z => hj z.1)]
        have z := m.sl j
        have dj : (slot en j).own = true → σ[i]? ≠ σ[j]? := fun q => m.dist i j hj ho q
        have gk : ∀ b, b ≠ a → G b = none → upd G a o b = none := fun b hb q => by
          rw [upd_ne hb]
          exact q
        cases q : slot en j with
        | un => exact trivial
        | sh d =>
          rw [q] at z
          obtain ⟨v, g1, g2⟩ := z
          exact ⟨v, g1, Rep.mono e d g2⟩
        | ow d =>
          rw [q] at z dj
          obtain ⟨b, xs, g1, g2, g3, g4, g5, g6⟩ := z
          refine ⟨b, xs, g1, g2, gk b (fun w => dj rfl ?_) g3, g4, g5, Reps.mono e d g6⟩
          rw [g1, h1, w]
        | owK d =>
          rw [q] at z dj
          obtain ⟨b, xs, g1, g2, g3, g4, g5, g6⟩ := z
          refine ⟨b, xs, g1, g2, gk b (fun w => dj rfl ?_) g3, g4, g5, RepK.mono e d g6⟩
          rw [g1, h1, w]
        | owT d =>
          rw [q] at z dj
          obtain ⟨b, xs, g1, g2, g3, g4, g5, g6⟩ := z
          refine ⟨b, xs, g1, g2, gk b (fun w => dj rfl ?_) g3, g4, g5, RepT.mono e d g6⟩
          rw [g1, h1, w]
    · have back : ∀ l, (slot (en.set i (frzS (slot en i))) l).own = true → (slot en l).own = true := fun l q => by
        rw [slot_set] at q
        by_cases hl : i = l
        · rw [← hl]
          exact ho
        · rw [if_neg (fun z => hl z.1)] at q
          exact q
      exact m.dist j k hjk (back j q1) (back k q2)
    · by_cases hc : c = a
      · subst hc
        rw [upd_same] at q
        cases q
        exact ho2
      · rw [upd_ne hc] at q
        exact m.sub c u q
    · rw [upd_ne (fun z => q (by rw [z]; exact h4))]
      exact m.ext.n c q
  · refine ⟨G, ?_, .refl G⟩
    have hs : en.set i (frzS (slot en i)) = en := by
      have hf : frzS (slot en i) = slot en i := by
        cases q : slot en i with
        | un => rfl
        | sh d => rfl
        | _ =>
          rw [q] at ho
          exact absurd rfl ho
      rw [hf]
      apply List.ext_getElem?
      intro j
      by_cases hj : i = j
      · subst hj
        by_cases hi : i < en.length
        · rw [List.getElem?_set_self hi]
          unfold slot
          rw [List.getElem?_eq_getElem hi]
          rfl
        · rw [List.set_eq_of_length_le (by omega)]
      · rw [List.getElem?_set_ne hj]
    rw [hs]
    exact m
end

/-! ### targets -/
abbrev GV := D → Env → Option Env
/-- a target's rule stores what g says; it touches the slots vs alone -/
def TgL (K : PySem.W.Frag) (vs : List Nat) (t : TG) (g : GV) : Prop :=
  ∀ (A : AA) (H0 G0 : Hp) (σ : L2.St) (en en1 : Env) (H G : Hp) (s : LS) (v : V) (d : D) (Q : L2.St → Hp → Prop), Mt K A H0 G0 σ en H G s → Rep K A G v d → g d en = some en1 →
    (∀ σ', Mt K A H0 G0 σ' en1 H G s → (∀ j, j ∉ vs → σ'[j]? = σ[j]? ∧ slot en1 j = slot en j) → σ'.length = σ.length → Q σ' H) → t v σ H Q
def TgsL (K : PySem.W.Frag) (vs : List Nat) (t : TGs) (g : List D → Env → Option Env) : Prop :=
  ∀ (A : AA) (H0 G0 : Hp) (σ : L2.St) (en en1 : Env) (H G : Hp) (s : LS) (xs : List V) (ds : List D) (Q : L2.St → Hp → Prop), Mt K A H0 G0 σ en H G s → Reps K A G xs ds → g ds en = some en1 →
    (∀ σ', Mt K A H0 G0 σ' en1 H G s → (∀ j, j ∉ vs → σ'[j]? = σ[j]? ∧ slot en1 j = slot en j) → σ'.length = σ.length → Q σ' H) → t xs σ H Q
def tgN (i : Nat) : GV := fun d en => some (en.set i (.sh d))
theorem tgl_name {K : PySem.W.Frag} {i : Nat} {vs : List Nat} (hi : i ∈ vs) : TgL K vs (gName i) (tgN i) := by
  intro A H0 G0 σ en en1 H G s v d Q m r e q
  cases e
  refine q _ (m.setS r) (fun j hj => ?_) (by rw [List.length_set])
  have hne : i ≠ j := fun z => hj (by rw [← z]; exact hi)
  exact ⟨List.getElem?_set_ne hne, by rw [slot_set, if_neg (fun z => hne z.1)]⟩
def tgsNil : List D → Env → Option Env
  | [], en => some en
  | _, _ => none
def tgsCons (g : GV) (gs : List D → Env → Option Env) : List D → Env → Option Env
  | d :: ds, en => (g d en).bind fun en1 => gs ds en1
  | _, _ => none
theorem tgsl_nil {K : PySem.W.Frag} {vs : List Nat} : TgsL K vs gNil tgsNil := by
  intro A H0 G0 σ en en1 H G s xs ds Q m r e q
  cases ds with
  | nil =>
    cases e
    exact ⟨r, q σ m (fun _ _ => ⟨rfl, rfl⟩) rfl⟩
  | cons d ds => cases e
theorem tgsl_cons {K : PySem.W.Frag} {vs : List Nat} {t : TG} {ts : TGs} {g : GV} {gs : List D → Env → Option Env} (h1 : TgL K vs t g) (h2 : TgsL K vs ts gs) : TgsL K vs (gCons t ts) (tgsCons g gs) := by
  intro A H0 G0 σ en en1 H G s xs ds Q m r e q
  cases ds with
  | nil => cases e
  | cons d ds =>
    obtain ⟨x, xr, rfl, r1, r2⟩ := r
    have e' : (g d en).bind (fun en1 => gs ds en1) = some en1 := e
    cases hg : g d en with
    | none =>
      rw [hg] at e'
      cases e'
    | some en2 =>
      rw [hg] at e'
      refine ⟨x, xr, rfl, h1 A H0 G0 σ en en2 H G s x d _ m r1 hg fun σ' m' k' l' => ?_⟩
      refine h2 A H0 G0 σ' en2 en1 H G s xr ds Q m' r2 e' fun σ2 m2 k2 l2 => ?_
      exact q σ2 m2 (fun j hj => ⟨(k2 j hj).1.trans (k' j hj).1, (k2 j hj).2.trans (k' j hj).2⟩) (l2.trans l')
def tgT (n : Nat) (gs : List D → Env → Option Env) : GV := fun d en => match d with
  | .tup ds => if ds.length = n then gs ds en else none
  | _ => none
theorem tgl_tup {K : PySem.W.Frag} {vs : List Nat} {n : Nat} {ts : TGs} {gs : List D → Env → Option Env} (h : TgsL K vs ts gs) : TgL K vs (gTup K n ts) (tgT n gs) := by
  intro A H0 G0 σ en en1 H G s v d Q m r e q
  cases d with
  | tup ds =>
    obtain ⟨a, xs, rfl, h1, r1⟩ := r
    have e' : (if ds.length = n then gs ds en else none) = some en1 := e
    by_cases hn : ds.length = n
    · rw [if_pos hn] at e'
      exact ⟨a, xs, rfl, Same.tupq m.sub h1, by rw [r1.length]; exact hn, h A H0 G0 σ en en1 H G s xs ds Q m r1 e' q⟩
    · rw [if_neg hn] at e'
      cases e'
  | _ => cases e
structure PGD (X : Cx) (vs : List Nat) (e : Expr) (t : TG) (g : GV) : Prop where
  p : PG X e t
  l : TgL X.K vs t g
structure PGsD (X : Cx) (vs : List Nat) (e : List Expr) (t : TGs) (g : List D → Env → Option Env) : Prop where
  p : PGs X e t
  l : TgsL X.K vs t g
section
variable {X : Cx} {E : XK} {pos : Pos} {vs : List Nat}
theorem pg_nameD {i : Nat} {x : Str} (hi' : i ∈ vs) (hN : X.N.Nodup) (hi : X.N[i]? = some x) (hx : Loc X.env.scope x) (hf : X.fn x = true ∨ X.env.scope.names.lookup x = some .local := by first | exact .inl rfl | exact .inr rfl | assumption) : PGD X vs (.Name x pos) (gName i) (tgN i) := ⟨pg_name hN hi hx hf, tgl_name hi'⟩
theorem pgs_nilD : PGsD X vs [] gNil tgsNil := ⟨pgs_nil, tgsl_nil⟩
theorem pgs_consD {e : Expr} {es : List Expr} {t : TG} {u : TGs} {g : GV} {gs : List D → Env → Option Env} (h1 : PGD X vs e t g) (h2 : PGsD X vs es u gs)
    (hs : (assignEach (e :: es) X.env).map (·.2) = assign e X.env :: (assignEach es X.env).map (·.2) := by rfl) : PGsD X vs (e :: es) (gCons t u) (tgsCons g gs) := ⟨pgs_cons h1.p h2.p hs, tgsl_cons h1.l h2.l⟩
theorem pg_tupD {es : List Expr} {k : Nat} {t : TGs} {n : Nat} {gs : List D → Env → Option Env} (hc : X.calm = true) (h : PGsD X vs es t gs)
    (hn : (assignEach es X.env).length = n := by rfl) (hst : (assignEach es X.env).findIdx? (·.1) = none := by rfl) : PGD X vs (.Tuple es k pos) (gTup X.K n t) (tgT n gs) := ⟨pg_tup hc h.p hn hst, tgl_tup h.l⟩

def sAsg (ev : EV) (g : GV) : SV := fun en => M.bind (ev en) fun d => match g d en with
  | some en1 => M.ret (.nx en1)
  | none => M.no
theorem rs_asg {K mg} {ev : EV} {t : TG} {g : GV} {vs : List Nat} (hg : TgL K vs t g) {T : Ends} {σ : L2.St} {H : Hp} (h : RS K mg E (sAsg ev g) T σ H) : tAsg (RE K mg E ev) t T σ H := by
  obtain ⟨A, H0, G0, en, G, s, m, o⟩ := h
  refine ⟨A, H0, G0, en, G, s, m, (Os.bind o).mono fun d s1 H1 G1 m1 e1 o1 v r => ?_⟩
  cases q : g d en with
  | none =>
    rw [q] at o1
    exact o1.elim
  | some en1 =>
    rw [q] at o1
    exact hg A H0 G0 σ en en1 H1 G1 s1 v d _ m1 r q fun σ' m' _ _ => o1 σ' H1 G1 m' (.refl G1)
theorem ps_asgD {tg e : Expr} {ev : EV} {t : TG} {g : GV} (he : PD X E e ev) (hg : PGD X vs tg t g) (hs : swapsWithSole [tg] e pos.line X.env = pure false := by rfl) (hw : swappedStores [tg] e X.env = pure none := by rfl)
    (h1 : (assignEach [tg] X.env).map (·.2) = [assign tg X.env] := by rfl) : PSD X E (.Assign [tg] e pos) (sAsg ev g) := ⟨ps_imp (ps_asg he.p hg.p hs hw h1) fun _ _ _ h => rs_asg hg.l h⟩
theorem ps_setD {i : Nat} {x : Str} {e : Expr} {ev : EV} {pos' : Pos} (hN : X.N.Nodup) (hi : X.N[i]? = some x) (hx : Loc X.env.scope x) (he : PD X E e ev) (hs : swapsWith e (some (.Name x pos')) pos.line X.env = pure false := by rfl) (hf : X.fn x = true ∨ X.env.scope.names.lookup x = some .local := by first | exact .inl rfl | exact .inr rfl | assumption) :
    PSD X E (.Assign [.Name x pos'] e pos) (sAsg ev (tgN i)) := ⟨ps_imp (ps_set hN hi hx he.p hs hf) fun _ _ _ h => rs_asg (tgl_name (vs := [i]) List.mem_cons_self) h⟩
/-- name = a new list of one's own -/
def sOwn (i : Nat) (ev : EV) : SV := fun en => M.bind (ev en) fun d => M.ret (.nx (en.set i (Slot.ofD d)))
theorem rs_own {K mg} {ev : EV} {i : Nat} {T : Ends} {σ : L2.St} {H : Hp} (h : RS K mg E (sOwn i ev) T σ H) : tAsg (RF K mg E ev) (gName i) T σ H := by
  obtain ⟨A, H0, G0, en, G, s, m, o⟩ := h
  refine ⟨A, H0, G0, en, G, s, m, (Os.bind o).mono fun d s1 H1 G1 m1 e1 o1 p hp r => ?_⟩
  exact o1 _ H1 G1 (m.setF m1 hp r) (.refl G1)
theorem ps_ownD {i : Nat} {x : Str} {e : Expr} {ev : EV} {pos' : Pos} (hN : X.N.Nodup) (hi : X.N[i]? = some x) (hx : Loc X.env.scope x) (he : PF X E e ev) (hs : swapsWith e (some (.Name x pos')) pos.line X.env = pure false := by rfl) (hf : X.fn x = true ∨ X.env.scope.names.lookup x = some .local := by first | exact .inl rfl | exact .inr rfl | assumption) :
    PSD X E (.Assign [.Name x pos'] e pos) (sOwn i ev) := ⟨ps_imp (ps_set hN hi hx he.p hs hf) fun _ _ _ h => rs_own h⟩
/-- freeze ahead of statements -/
def sFrz (i : Nat) (sv : SV) : SV := fun en => sv (en.set i (frzS (slot en i)))
theorem pss_frz {i : Nat} {sts : List Stmt} {sv : SV} (h : PSsD X E sts sv) : PSsD X E sts (sFrz i sv) := by
  refine ⟨pss_imp h.p fun T σ H ⟨A, H0, G0, en, G, s, m, o⟩ => ?_⟩
  obtain ⟨G', m', e'⟩ := m.frz i
  exact ⟨A, H0, G0, _, G', s, m', Os.go o e'⟩
end
end DL

set_option Elab.async false
set_option linter.all false
set_option maxRecDepth 100000
set_option maxHeartbeats 4000000
/-! Loops, comprehensions, defs by data. -/
namespace DL
open PySem PySem.Spec PyProof.Rows L2

/-! ### what is walked -/
/-- J yields ds while S stands -/
def Yl (K : PySem.W.Frag) (A : AA) (H0 G0 : Hp) (S : Hp → Hp → Prop) (J : It) (ds : List D) : Prop := ∀ i H' G', S H' G' →
  (∀ d, ds[i]? = some d → J.go i H' ∧ ∀ x H2, J.yld i H' x H2 → ∃ G2, Ext A H' G' H2 G2 ∧ (∀ σ en s, Mt K A H0 G0 σ en H' G' s → Mt K A H0 G0 σ en H2 G2 s) ∧ Rep K A G2 x d) ∧ (ds[i]? = none → J.stop i H')
def RI (K : PySem.W.Frag) (mg : Str → Option Value) (E : XK) (lv : AV) : TI := fun σ H R => ∃ A H0 G0 en G s, Mt K A H0 G0 σ en H G s ∧ Og K mg E A H0 G0 σ en H G (lv en s) fun ds _ H' G' => ∀ J, Yl K A H0 G0 (fun H2 G2 => Same G' G2 ∧ Same G2 H2) J ds → R J H'
def RIB (K : PySem.W.Frag) (mg : Str → Option Value) (E : XK) (lv : AV) : TI := fun σ H R => ∃ A H0 G0 en G s, Mt K A H0 G0 σ en H G s ∧ Og K mg E A H0 G0 σ en H G (lv en s) fun ds s' H' G' => ∀ J, Yl K A H0 G0 (fun H2 G2 => Ext A H' G' H2 G2 ∧ ∃ s2, Mt K A H0 G0 σ en H2 G2 s2) J ds → R J H'
structure PID (X : Cx) (E : XK) (tg iter : Expr) (lv : AV) : Prop where
  p : PI X tg iter (RI X.K X.mg E lv)
structure PIB (X : Cx) (E : XK) (tg iter : Expr) (lv : AV) : Prop where
  p : PI X tg iter (RIB X.K X.mg E lv)
section
variable {X : Cx} {E : XK} {tg iter : Expr} {lv : AV} {pos : Pos}
theorem PID.bo (h : PID X E tg iter lv) : PIB X E tg iter lv := by
  refine ⟨⟨fun pins s σ H R I q => h.p.run pins s σ H R I ?_⟩⟩
  obtain ⟨A, H0, G0, en, G, s, m, o⟩ := q
  refine ⟨A, H0, G0, en, G, s, m, o.mono fun ds s' H' G' _ _ k J y => k J fun i H2 G2 z => y i H2 G2 ⟨z.1.g, ?_⟩⟩
  obtain ⟨_, s2, m2⟩ := z
  exact m2.sub
/-- a list or a tuple -/
def itemsD : D → M (List D)
  | .lst ds => M.ret ds
  | .tup ds => M.ret ds
  | _ => M.no
def eSeq (ev : EV) : AV := fun en => M.bind (ev en) itemsD
theorem yl_list {K : PySem.W.Frag} {A : AA} {H0 G0 : Hp} {S : Hp → Hp → Prop} {a : Addr} {ds : List D} (h : ∀ H' G', S H' G' → ∃ xs, SqL K H' a xs ∧ Reps K A G' xs ds) : Yl K A H0 G0 S (Itl K a) ds := fun i H' G' z => by
  obtain ⟨xs, h1, h2⟩ := h H' G' z
  refine ⟨fun d hd => ?_, fun hd => ⟨xs, h1, ?_⟩⟩
  · obtain ⟨x, hx, rx⟩ := h2.get hd
    refine ⟨⟨xs, x, h1, hx⟩, fun y H2 q => ?_⟩
    obtain ⟨e, q⟩ := q
    subst e
    have e2 : some y = some x := (q xs h1).symm.trans hx
    cases e2
    exact ⟨G', .refl, fun _ _ _ m => m, rx⟩
  · rw [h2.length]
    exact List.getElem?_eq_none_iff.mp hd
theorem yl_tup {K : PySem.W.Frag} {A : AA} {H0 G0 : Hp} {S : Hp → Hp → Prop} {a : Addr} {ds : List D} (h : ∀ H' G', S H' G' → ∃ xs, SqT K H' a xs ∧ Reps K A G' xs ds) : Yl K A H0 G0 S (Itt K a) ds := fun i H' G' z => by
  obtain ⟨xs, h1, h2⟩ := h H' G' z
  refine ⟨fun d hd => ?_, fun hd => ⟨xs, h1, ?_⟩⟩
  · obtain ⟨x, hx, rx⟩ := h2.get hd
    refine ⟨⟨xs, x, h1, hx⟩, fun y H2 q => ?_⟩
    obtain ⟨e, q⟩ := q
    subst e
    have e2 : some y = some x := (q xs h1).symm.trans hx
    cases e2
    exact ⟨G', .refl, fun _ _ _ m => m, rx⟩
  · rw [h2.length]
    exact List.getElem?_eq_none_iff.mp hd
theorem pi_seqD {ev : EV} (he : PD X E iter ev) : PID X E tg iter (eSeq ev) := by
  refine ⟨⟨fun pins s σ H R I q => ?_⟩⟩
  obtain ⟨A, H0, G0, en, G, s0, m, o⟩ := q
  cases z : ev en s0 with
  | bad =>
    unfold eSeq M.bind at o
    rw [z] at o
    exact o.elim
  | exc x s1 =>
    refine (pi_list (tg := tg) he.p).run pins s σ H R I ⟨A, H0, G0, en, G, s0, m, ?_⟩
    unfold eSeq M.bind at o
    rw [z] at o ⊢
    exact o
  | ok d s1 =>
    have o2 : Og X.K X.mg E A H0 G0 σ en H G (itemsD d s1) fun ds _ H' G' => ∀ J, Yl X.K A H0 G0 (fun H2 G2 => Same G' G2 ∧ Same G2 H2) J ds → R J H' := by
      unfold eSeq M.bind at o
      rw [z] at o
      exact o
    cases d with
    | lst ds =>
      refine (pi_list (tg := tg) he.p).run pins s σ H R I ⟨A, H0, G0, en, G, s0, m, ?_⟩
      rw [z]
      intro H' G' m' e v r
      obtain ⟨a, xs, rfl, h1, r1⟩ := r
      refine ⟨a, rfl, ⟨xs, SqL.of (m'.sub _ _ h1)⟩, o2 H' G' m' e _ (yl_list fun H2 G2 z => ?_)⟩
      exact ⟨xs, SqL.of (z.2 _ _ (z.1 _ _ h1)), Reps.mono z.1 ds r1⟩
    | tup ds =>
      refine (pi_tup (tg := tg) he.p).run pins s σ H R I ⟨A, H0, G0, en, G, s0, m, ?_⟩
      rw [z]
      intro H' G' m' e v r
      obtain ⟨a, xs, rfl, h1, r1⟩ := r
      refine ⟨a, rfl, ⟨xs, Same.tupq m'.sub h1⟩, o2 H' G' m' e _ (yl_tup fun H2 G2 z => ?_)⟩
      exact ⟨xs, Same.tupq z.2 (Same.tupq z.1 h1), Reps.mono z.1 ds r1⟩
    | _ => exact o2.elim
theorem pi_seqB {ev : EV} (he : PB X E iter ev) : PIB X E tg iter (eSeq ev) := by
  refine ⟨⟨fun pins s σ H R I q => ?_⟩⟩
  obtain ⟨A, H0, G0, en, G, s0, m, o⟩ := q
  cases z : ev en s0 with
  | bad =>
    unfold eSeq M.bind at o
    rw [z] at o
    exact o.elim
  | exc x s1 =>
    refine (pi_list (tg := tg) he.p).run pins s σ H R I ⟨A, H0, G0, en, G, s0, m, ?_⟩
    unfold eSeq M.bind at o
    rw [z] at o ⊢
    exact o
  | ok d s1 =>
    have o2 : Og X.K X.mg E A H0 G0 σ en H G (itemsD d s1) fun ds s' H' G' => ∀ J, Yl X.K A H0 G0 (fun H2 G2 => Ext A H' G' H2 G2 ∧ ∃ s2, Mt X.K A H0 G0 σ en H2 G2 s2) J ds → R J H' := by
      unfold eSeq M.bind at o
      rw [z] at o
      exact o
    cases d with
    | lst ds =>
      refine (pi_list (tg := tg) he.p).run pins s σ H R I ⟨A, H0, G0, en, G, s0, m, ?_⟩
      rw [z]
      intro H' G' m' e v r
      obtain ⟨a, xs, rfl, h1, r1⟩ := r.now m'
      refine ⟨a, rfl, ⟨xs, SqL.of h1⟩, o2 H' G' m' e _ (yl_list fun H2 G2 ⟨e2, s2, m2⟩ => ?_)⟩
      obtain ⟨b, ys, e3, h2, r2⟩ := r H2 G2 s2 m2 e2
      cases e3
      exact ⟨ys, SqL.of h2, r2⟩
    | tup ds =>
      refine (pi_tup (tg := tg) he.p).run pins s σ H R I ⟨A, H0, G0, en, G, s0, m, ?_⟩
      rw [z]
      intro H' G' m' e v r
      obtain ⟨a, xs, rfl, h1, r1⟩ := r.now m'
      refine ⟨a, rfl, ⟨xs, Same.tupq m'.sub h1⟩, o2 H' G' m' e _ (yl_tup fun H2 G2 ⟨e2, s2, m2⟩ => ?_)⟩
      obtain ⟨b, ys, e3, h2, r2⟩ := r H2 G2 s2 m2 e2
      cases e3
      exact ⟨ys, Same.tupq m2.sub h2, r2⟩
    | _ => exact o2.elim
/-- range -/
def rangeD (lo : Int) (n : Nat) : List D := (List.range n).map fun (k : Nat) => .int (lo + (k : Int))
def rngD : List D → M (List D)
  | [.int j] => if (decide (-(2 ^ 62) ≤ j) && decide (j < 2 ^ 62)) = true then M.ret (rangeD 0 j.toNat) else M.no
  | [.int i, .int j] => if (decide (-(2 ^ 62) ≤ i) && decide (i < 2 ^ 62) && decide (-(2 ^ 62) ≤ j) && decide (j < 2 ^ 62)) = true then M.ret (rangeD i (j - i).toNat) else M.no
  | _ => M.no
def eRng (av : AV) : AV := fun en => M.bind (av en) rngD
theorem yl_range {K : PySem.W.Frag} {A : AA} {H0 G0 : Hp} {S : Hp → Hp → Prop} {lo : Int} {n : Nat} : Yl K A H0 G0 S (Itr lo n) (rangeD lo n) := fun i H' G' z => by
  refine ⟨fun d hd => ?_, fun hd => ?_⟩
  · unfold rangeD at hd
    rw [List.getElem?_map] at hd
    by_cases hi : i < n
    · rw [List.getElem?_range hi] at hd
      cases hd
      refine ⟨hi, fun x H2 q => ?_⟩
      obtain ⟨e, q⟩ := q
      subst e
      exact ⟨G', .refl, fun _ _ _ m => m, q⟩
    · rw [List.getElem?_eq_none (by rw [List.length_range]; omega)] at hd
      cases hd
  · unfold rangeD at hd
    rw [List.getElem?_map] at hd
    by_cases hi : i < n
    · rw [List.getElem?_range hi] at hd
      cases hd
    · show n ≤ i
      omega
theorem pi_rng1D {a : Expr} {av : AV} {p : Pos} (hg : Gl X "range") (hm : X.mg "range" = none) (ha : PAD X E [a] av) (hl : ∀ en s ds s', av en s = .ok ds s' → ds.length = 1) (hs : starEach [a] X.env = [(false, eval a X.env)] := by rfl) : PID X E tg (.Call (.Name "range" p) [a] [] pos) (eRng av) := by
  refine ⟨⟨fun pins s σ H R I q => (pi_range1 hg hm ha.p hs).run pins s σ H R I ?_⟩⟩
  obtain ⟨A, H0, G0, en, G, s0, m, o⟩ := q
  have hl := hl en s0
  refine ⟨A, H0, G0, en, G, s0, m, ?_⟩
  have o2 := Og.bind o
  cases z : av en s0 with
  | bad =>
    rw [z] at o2
    exact o2.elim
  | exc x s1 =>
    rw [z] at o2
    exact o2
  | ok ds s1 =>
    rw [z] at o2
    intro H' G' m' e vs rs
    have o3 : Og X.K X.mg E A H0 G0 σ en H' G' (rngD ds s1) (fun ds x H' G' => ∀ (J : It), Yl X.K A H0 G0 (fun H2 G2 => Same G' G2 ∧ Same G2 H2) J ds → R J H') := o2 H' G' m' e
    unfold rngD at o3
    have l := hl ds s1 z
    split at o3
    · rename_i j
      by_cases hz : (decide (-(2 ^ 62) ≤ j) && decide (j < 2 ^ 62)) = true
      · rw [if_pos hz] at o3
        rw [Bool.and_eq_true] at hz
        obtain ⟨x, r, rfl, h1, h2⟩ := rs
        cases (show r = [] from h2)
        exact ⟨j, by rw [show x = _ from h1], of_decide_eq_true hz.1, of_decide_eq_true hz.2, o3 H' G' m' .refl _ yl_range⟩
      · rw [if_neg hz] at o3
        exact o3.elim
    · simp at l
    · exact o3.elim
theorem pi_rng2D {a b : Expr} {av : AV} {p : Pos} (hg : Gl X "range") (hm : X.mg "range" = none) (ha : PAD X E [a, b] av) (hl : ∀ en s ds s', av en s = .ok ds s' → ds.length = 2) (hs : starEach [a, b] X.env = [(false, eval a X.env), (false, eval b X.env)] := by rfl) (hs2 : starEach [b] X.env = [(false, eval b X.env)] := by rfl) : PID X E tg (.Call (.Name "range" p) [a, b] [] pos) (eRng av) := by
  refine ⟨⟨fun pins s σ H R I q => (pi_range2 hg hm ha.p hs hs2).run pins s σ H R I ?_⟩⟩
  obtain ⟨A, H0, G0, en, G, s0, m, o⟩ := q
  have hl := hl en s0
  refine ⟨A, H0, G0, en, G, s0, m, ?_⟩
  have o2 := Og.bind o
  cases z : av en s0 with
  | bad =>
    rw [z] at o2
    exact o2.elim
  | exc x s1 =>
    rw [z] at o2
    exact o2
  | ok ds s1 =>
    rw [z] at o2
    intro H' G' m' e vs rs
    have o3 : Og X.K X.mg E A H0 G0 σ en H' G' (rngD ds s1) (fun ds x H' G' => ∀ (J : It), Yl X.K A H0 G0 (fun H2 G2 => Same G' G2 ∧ Same G2 H2) J ds → R J H') := o2 H' G' m' e
    unfold rngD at o3
    have l := hl ds s1 z
    split at o3
    · simp at l
    · rename_i i j
      by_cases hz : (decide (-(2 ^ 62) ≤ i) && decide (i < 2 ^ 62) && decide (-(2 ^ 62) ≤ j) && decide (j < 2 ^ 62)) = true
      · rw [if_pos hz] at o3
        simp only [Bool.and_eq_true, decide_eq_true_eq] at hz
        obtain ⟨x, r, rfl, h1, y, r2, rfl, h2, h3⟩ := rs
        cases (show r2 = [] from h3)
        exact ⟨i, j, by rw [show x = _ from h1, show y = _ from h2], ⟨hz.1.1.1, hz.1.1.2, hz.1.2, hz.2⟩, o3 H' G' m' .refl _ yl_range⟩
      · rw [if_neg hz] at o3
        exact o3.elim
    · exact o3.elim
end

/-! ### for -/
def forL (g : GV) (b : SV) : List D → Env → M Fl
  | [], en => M.ret (.nx en)
  | d :: r, en => match g d en with
    | none => M.no
    | some en1 => M.bind (b en1) fun f => match f with
      | .nx en2 => forL g b r en2
      | .ct en2 => forL g b r en2
      | .bk en2 => M.ret (.nx en2)
      | .rt x => M.ret (.rt x)
def sFor (lv : AV) (g : GV) (b : SV) : SV := fun en => M.bind (lv en) fun ds => forL g b ds en
section
variable {X : Cx} {E : XK} {tg iter : Expr} {lv : AV} {pos : Pos} {vs : List Nat}
theorem ps_forD {body : List Stmt} {t : TG} {g : GV} {sb : SV} (hp : PassesOwn (model X.prog X.w) X.A X.env X.xe) (hc : X.calm = true) (hi : PID X E tg iter lv) (hg : PGD X vs tg t g) (hb : PSsD X E body sb)
    (hs : ∀ x, foldedSetIterable iter X.env x = pure x := by intro _; rfl) : PSD X E (.For tg iter body [] pos) (sFor lv g sb) := by
  refine ⟨ps_imp (ps_for hp hc hi.p hg.p hb.p hs) fun T σ H ⟨A, H0, G0, en, G, s, m, o⟩ => ⟨A, H0, G0, en, G, s, m, ?_⟩⟩
  refine (Os.bind o).mono fun ds s1 H1 G1 m1 e1 o1 J y => ?_
  refine ⟨fun i n σ H => n = ds.length - i ∧ i ≤ ds.length ∧ ∃ en G s, Mt X.K A H0 G0 σ en H G s ∧ Same G1 G ∧ Os X.K X.mg E A H0 G0 G (forL g sb (ds.drop i) en s) T, ⟨_, rfl, Nat.zero_le _, en, G1, s1, m1, .refl G1, o1⟩, ?_⟩
  rintro i n σ H ⟨rfl, hi, en, G, s, m, gg, o⟩
  obtain ⟨y1, y2⟩ := y i H G ⟨gg, m.sub⟩
  by_cases hlt : i < ds.length
  · have hd : ds[i]? = some ds[i] := List.getElem?_eq_getElem hlt
    obtain ⟨hgo, hy⟩ := y1 _ hd
    refine .inr ⟨hgo, fun σ' H' => ∃ en G s, Mt X.K A H0 G0 σ' en H' G s ∧ Same G1 G ∧ Os X.K X.mg E A H0 G0 G (forL g sb (ds.drop (i + 1)) en s) T, fun σ' H' hN => ⟨_, (by omega : ds.length - (i + 1) < ds.length - i), rfl, hlt, hN⟩, fun x H2 hx => ?_⟩
    obtain ⟨G2, e2, k2, r2⟩ := hy x H2 hx
    rw [List.drop_eq_getElem_cons hlt] at o
    unfold forL at o
    cases hg1 : g ds[i] en with
    | none =>
      rw [hg1] at o
      exact o.elim
    | some en1 =>
      rw [hg1] at o
      refine hg.l A H0 G0 σ en en1 H2 G2 s x ds[i] _ (k2 σ en s m) r2 hg1 fun σ' m' _ _ => ?_
      refine ⟨A, H0, G0, en1, G2, s, m', ?_⟩
      have g2 : Same G1 G2 := gg.trans e2.g
      replace o := o.go e2.g
      unfold M.bind at o
      cases hb1 : sb en1 s with
      | bad =>
        simp only [hb1] at o
        exact o
      | exc x2 s2 =>
        simp only [hb1] at o
        exact o
      | ok f s2 =>
        simp only [hb1] at o
        cases f with
        | nx en2 => exact fun σ3 H3 G3 m3 e3 => ⟨en2, G3, s2, m3, g2.trans e3, o.go e3⟩
        | ct en2 => exact fun σ3 H3 G3 m3 e3 => ⟨en2, G3, s2, m3, g2.trans e3, o.go e3⟩
        | bk en2 => exact o
        | rt d => exact o
  · have e : i = ds.length := by omega
    subst e
    rw [List.drop_length] at o
    exact .inl ⟨y2 (List.getElem?_eq_none (Nat.le_refl _)), o σ H G m (.refl G)⟩
end

/-! ### while -/
def whileN (t : TV) (b : SV) : Nat → Env → M Fl
  | 0, _ => M.no
  | n + 1, en => M.bind (t en) fun k => if k = true then M.bind (b en) fun f => match f with
      | .nx en2 => whileN t b n en2
      | .ct en2 => whileN t b n en2
      | .bk en2 => M.ret (.nx en2)
      | .rt x => M.ret (.rt x)
    else M.ret (.nx en)
@[irreducible] def fuel : Nat := 2 ^ 500000
def sWhile (t : TV) (b : SV) : SV := whileN t b fuel
section
variable {X : Cx} {E : XK} {pos : Pos}
theorem ps_whileD {c : Expr} {body : List Stmt} {tv : TV} {sb : SV} (hp : PassesOwn (model X.prog X.w) X.A X.env X.xe) (hc : PTD X E c tv) (hb : PSsD X E body sb) : PSD X E (.While c body [] pos) (sWhile tv sb) := by
  refine ⟨ps_imp (ps_while hp hc.p hb.p) fun T σ H ⟨A, H0, G0, en, G, s, m, o⟩ => ?_⟩
  refine ⟨fun n σ' H' => ∃ en' G' s', Mt X.K A H0 G0 σ' en' H' G' s' ∧ Os X.K X.mg E A H0 G0 G' (whileN tv sb n en' s') T, ⟨fuel, en, G, s, m, o⟩, ?_⟩
  rintro n σ1 H1 ⟨en1, G1, s1, m1, o1⟩
  cases n with
  | zero => exact o1.elim
  | succ n =>
    unfold whileN at o1
    refine ⟨A, H0, G0, en1, G1, s1, m1, (Os.bind o1).mono fun k s2 H2 G2 m2 e2 o2 => ?_⟩
    cases k with
    | false => exact o2 σ1 H2 G2 m2 (.refl G2)
    | true =>
      rw [if_pos rfl] at o2 ⊢
      refine ⟨fun σ' H' => ∃ en' G' s', Mt X.K A H0 G0 σ' en' H' G' s' ∧ Os X.K X.mg E A H0 G0 G' (whileN tv sb n en' s') T, fun σ' H' h => ⟨n, Nat.lt_succ_self n, h⟩, A, H0, G0, en1, G2, s2, m2, ?_⟩
      unfold M.bind at o2
      cases hb1 : sb en1 s2 with
      | bad =>
        simp only [hb1] at o2
        exact o2
      | exc x2 s3 =>
        simp only [hb1] at o2
        exact o2
      | ok f s3 =>
        simp only [hb1] at o2
        cases f with
        | nx en2 => exact fun σ3 H3 G3 m3 e3 => ⟨en2, G3, s3, m3, o2.go e3⟩
        | ct en2 => exact fun σ3 H3 G3 m3 e3 => ⟨en2, G3, s3, m3, o2.go e3⟩
        | bk en2 => exact o2
        | rt d => exact o2
end

/-! ### comprehensions -/
def M.nox {α : Type} (m : M α) : M α := fun s => match m s with
  | .exc _ _ => .bad
  | o => o
@[simp] theorem M.nox_ret {α : Type} (a : α) : M.nox (M.ret a) = M.ret a := id rfl
@[simp] theorem M.nox_no {α : Type} : M.nox (M.no : M α) = M.no := id rfl
def wipeE (en : Env) : List Nat → Env
  | [] => en
  | v :: vs => (wipeE en vs).set v .un
def lcL (g : GV) (t : TV) (e : EV) (en : Env) : List D → M (List D)
  | [] => M.ret []
  | d :: r => match g d en with
    | none => M.no
    | some en1 => M.bind (M.nox (t en1)) fun b => if b = true then M.bind (M.nox (e en1)) fun y => M.bind (lcL g t e en r) fun ys => M.ret (y :: ys) else lcL g t e en r
def eLc (lv : AV) (vs : List Nat) (g : GV) (t : TV) (e : EV) : EV := fun en => M.bind (lv en) fun ds => if (vs.any fun i => (slot en i).own) = true then M.no else M.bind (lcL g t e (wipeE en vs) ds) fun ys => if fits ys.length = true then M.ret (.lst ys) else M.no
def tvYes : TV := fun _ => M.ret true
structure PTsD (X : Cx) (E : XK) (ifs : List Expr) (tv : TV) : Prop where
  p : PTs X ifs (RT X.K X.mg E tv)
section
variable {X : Cx} {E : XK}
theorem pts_nilD : PTsD X E [] tvYes := ⟨⟨fun pins s σ H Q I ⟨A, H0, G0, en, G, s0, m, o⟩ => pts_nil.run pins s σ H Q I (o H G m .refl)⟩⟩
theorem pts_oneD {c : Expr} {tv : TV} (h : PTD X E c tv) : PTsD X E [c] tv := ⟨pts_one h.p⟩
theorem wipe_get : ∀ {vs : List Nat} {σ : L2.St} {j : Nat}, j ∉ vs → (wipe σ vs)[j]? = σ[j]?
  | [], _, _, _ => rfl
  | v :: vs, σ, j, h => by
    unfold wipe
    rw [List.getElem?_set_ne (fun z => h (by rw [z]; exact List.mem_cons_self))]
    exact wipe_get fun z => h (List.mem_cons_of_mem _ z)
theorem wipe_in : ∀ {vs : List Nat} {σ : L2.St} {j : Nat}, j ∈ vs → j < σ.length → (wipe σ vs)[j]? = some none
  | [], _, _, h, _ => nomatch h
  | v :: vs, σ, j, h, hl => by
    unfold wipe
    by_cases hj : v = j
    · subst hj
      rw [List.getElem?_set_self (by rw [wipe_length]; exact hl)]
    · rw [List.getElem?_set_ne hj]
      refine wipe_in ?_ hl
      rcases List.mem_cons.mp h with z | z
      · exact absurd z.symm hj
      · exact z
theorem wipe_eq {vs : List Nat} {σ τ : L2.St} (hl : τ.length = σ.length) (h : ∀ j, j ∉ vs → τ[j]? = σ[j]?) : wipe τ vs = wipe σ vs := by
  apply List.ext_getElem?
  intro j
  by_cases hj : j ∈ vs
  · by_cases hk : j < σ.length
    · rw [wipe_in hj hk, wipe_in hj (by rw [hl]; exact hk)]
    · rw [List.getElem?_eq_none (by rw [wipe_length]; omega), List.getElem?_eq_none (by rw [wipe_length]; omega)]
  · rw [wipe_get hj, wipe_get hj]
    exact h j hj
theorem wipeE_len (en : Env) : ∀ vs : List Nat, (wipeE en vs).length = en.length
  | [] => rfl
  | v :: vs => by unfold wipeE; rw [List.length_set, wipeE_len en vs]
theorem wipeE_get : ∀ {vs : List Nat} {en : Env} {j : Nat}, j ∉ vs → slot (wipeE en vs) j = slot en j
  | [], _, _, _ => rfl
  | v :: vs, σ, j, h => by
    unfold wipeE
    rw [slot_set, if_neg (fun z => h (by rw [← z.1]; exact List.mem_cons_self))]
    exact wipeE_get fun z => h (List.mem_cons_of_mem _ z)
theorem wipeE_in : ∀ {vs : List Nat} {en : Env} {j : Nat}, j ∈ vs → slot (wipeE en vs) j = .un
  | [], _, _, h => nomatch h
  | v :: vs, en, j, h => by
    unfold wipeE
    rw [slot_set]
    by_cases hj : v = j ∧ v < (wipeE en vs).length
    · rw [if_pos hj]
    · rw [if_neg hj]
      by_cases hv : v = j
      · have hl : ¬ v < (wipeE en vs).length := fun z => hj ⟨hv, z⟩
        unfold slot
        rw [List.getElem?_eq_none (by omega)]
        rfl
      · refine wipeE_in ?_
        rcases List.mem_cons.mp h with z | z
        · exact absurd z.symm hv
        · exact z
theorem Mt.wipe {K : PySem.W.Frag} {A : AA} {H0 G0 H G : Hp} {σ τ : L2.St} {en en1 : Env} {s : LS} {vs : List Nat} (m : Mt K A H0 G0 τ en1 H G s) (hl : τ.length = σ.length) (hle : σ.length = en.length) (h : ∀ j, j ∉ vs → τ[j]? = (L2.wipe σ vs)[j]? ∧ slot en1 j = slot (wipeE en vs) j) : Mt K A H0 G0 (L2.wipe σ vs) (wipeE en vs) H G s := by
  refine ⟨by rw [wipe_length, wipeE_len]; exact hle, fun j => ?_, fun j k hjk h1 h2 => ?_, m.sub, m.ext, m.st⟩
  · by_cases hj : j ∈ vs
    · rw [wipeE_in hj]
      exact trivial
    · obtain ⟨q1, q2⟩ := h j hj
      rw [← q1, ← q2]
      exact m.sl j
  · have nj : j ∉ vs := fun z => by rw [wipeE_in z] at h1; cases h1
    have nk : k ∉ vs := fun z => by rw [wipeE_in z] at h2; cases h2
    obtain ⟨q1, q2⟩ := h j nj
    obtain ⟨q3, q4⟩ := h k nk
    rw [← q1, ← q3]
    rw [← q2] at h1
    rw [← q4] at h2
    exact m.dist j k hjk h1 h2
theorem Mt.wipe0 {K : PySem.W.Frag} {A : AA} {H0 G0 H G : Hp} {σ : L2.St} {en : Env} {s : LS} (m : Mt K A H0 G0 σ en H G s) (vs : List Nat) : Mt K A H0 G0 (L2.wipe σ vs) (wipeE en vs) H G s := m.wipe rfl m.len fun j hj => ⟨(wipe_get hj).symm, (wipeE_get hj).symm⟩
theorem og_nox {K : PySem.W.Frag} {mg : Str → Option Value} {A : AA} {H0 G0 H G : Hp} {σ τ : L2.St} {en en1 : Env} {s : LS} {α β : Type} {m : M α} {f : α → M β} {Q : β → LS → Hp → Hp → Prop} {E' : XK}
    (h : Og K mg E A H0 G0 σ en H G (M.bind (M.nox m) f s) Q) {H1 G1 : Hp} (e : Ext A H G H1 G1) : Og K mg E' A H0 G0 τ en1 H1 G1 (m s) fun a s' H' G' => Og K mg E A H0 G0 σ en H G (f a s') Q := by
  unfold M.bind M.nox at h
  cases z : m s with
  | ok a s' =>
    simp only [z] at h
    exact fun H' G' _ _ => h
  | exc x s' =>
    simp only [z] at h
    exact h.elim
  | bad =>
    simp only [z] at h
    exact h.elim
theorem lc_read {K : PySem.W.Frag} {mg : Str → Option Value} {lv : AV} {vs : List Nat} {t : TG} {g : GV} {tv : TV} {ev : EV} {wi : TI} (hwi : wi = RIB K mg E lv) (hg : TgL K vs t g) {E' : XK} {σ : L2.St} {H : Hp} {Q : VK} (h : RF K mg E (eLc lv vs g tv ev) σ H Q) :
    tLc wi t (RT K mg E' tv) (RE K mg E' ev) vs σ H Q := by
  subst hwi
  obtain ⟨A, H0, G0, en, G, s, m, o⟩ := h
  refine ⟨A, H0, G0, en, G, s, m, (Og.bind o).mono fun ds s1 H1 G1 m1 e1 o1 J y L hD => ?_⟩
  by_cases hown : (vs.any fun i => (slot en i).own) = true
  · rw [if_pos hown] at o1
    exact o1.elim
  rw [if_neg hown] at o1
  have hHD : H L = none := by
    cases z : H L with
    | none => rfl
    | some u => exact absurd hD (e1.t L (by rw [z]; exact Option.some_ne_none _))
  obtain ⟨m2, e2⟩ := m1.newU (o := .lst []) hD
  -- what is kept between the turns
  refine ⟨fun i n H' => n = ds.length - i ∧ i ≤ ds.length ∧ ∃ acc accD G' s', H' L = some (.lst acc) ∧ G' L = none ∧ Reps K A G' acc accD ∧ Mt K A H0 G0 (L2.wipe σ vs) (wipeE en vs) H' G' s' ∧ Ext A H1 G1 H' G' ∧
      Og K mg E A H0 G0 σ en H1 G1 (M.bind (lcL g tv ev (wipeE en vs) (ds.drop i)) (fun ys => if fits (accD ++ ys).length = true then M.ret (D.lst (accD ++ ys)) else M.no) s') (fun d _ H' G' => ∀ p, H p = none → FrO K A H' G' p d → Q (.ref p) H'),
    ⟨_, rfl, Nat.zero_le _, [], [], G1, s1, upd_same, m1.g0 hD, rfl, m2.wipe0 vs, e2, o1⟩, ?_⟩
  rintro i n H' ⟨rfl, hi, acc, accD, G', s', hDl, hGD, rA, mw, ex, o2⟩
  have mo : Mt K A H0 G0 σ en H' G' s' := m1.go ex mw.sub mw.st
  obtain ⟨y1, y2⟩ := y i H' G' ⟨ex, s', mo⟩
  by_cases hlt : i < ds.length
  · have hd : ds[i]? = some ds[i] := List.getElem?_eq_getElem hlt
    obtain ⟨hgo, hy⟩ := y1 _ hd
    rw [List.drop_eq_getElem_cons hlt] at o2
    unfold lcL at o2
    refine .inr ⟨hgo, fun H'' => ∃ acc accD G' s', H'' L = some (.lst acc) ∧ G' L = none ∧ Reps K A G' acc accD ∧ Mt K A H0 G0 (L2.wipe σ vs) (wipeE en vs) H'' G' s' ∧ Ext A H1 G1 H'' G' ∧
      Og K mg E A H0 G0 σ en H1 G1 (M.bind (lcL g tv ev (wipeE en vs) (ds.drop (i + 1))) (fun ys => if fits (accD ++ ys).length = true then M.ret (D.lst (accD ++ ys)) else M.no) s') (fun d _ H' G' => ∀ p, H p = none → FrO K A H' G' p d → Q (.ref p) H'),
      fun H'' hN => ⟨_, (by omega : ds.length - (i + 1) < ds.length - i), rfl, hlt, hN⟩, fun x H2 hx => ?_⟩
    obtain ⟨G2, ex2, k2, r2⟩ := hy x H2 hx
    cases hg1 : g ds[i] (wipeE en vs) with
    | none =>
      rw [hg1] at o2
      exact o2.elim
    | some en1 =>
      simp only [hg1] at o2
      refine hg A H0 G0 (L2.wipe σ vs) (wipeE en vs) en1 H2 G2 s' x ds[i] _ (k2 _ _ _ mw) r2 hg1 fun τ m3 h3 l3 => ?_
      have hw : L2.wipe τ vs = L2.wipe σ vs := by
        have a := wipe_eq (vs := vs) (σ := L2.wipe σ vs) (τ := τ) l3 fun j hj => (h3 j hj).1
        rw [a]
        refine wipe_eq (by rw [wipe_length]) fun j hj => wipe_get hj
      refine ⟨hw, ?_⟩
      have back : ∀ {H5 G5 : Hp} {s5 : LS}, Mt K A H0 G0 τ en1 H5 G5 s5 → Mt K A H0 G0 (L2.wipe σ vs) (wipeE en vs) H5 G5 s5 := fun m5 => m5.wipe (by rw [l3, wipe_length]) m.len h3
      have D2 : ∀ {H5 G5 : Hp}, Ext A H' G' H5 G5 → H5 L = some (.lst acc) ∧ G5 L = none := fun {H5 G5} e5 => ⟨e5.h L _ hDl (m1.nA hD), (e5.n L (by rw [hDl]; exact Option.some_ne_none _)).trans hGD⟩
      rw [M.bind_assoc] at o2
      refine ⟨A, H0, G0, en1, G2, s', m3, (og_nox o2 (ex.trans ex2)).mono fun b s4 H4 G4 m4 e4 o4 => ?_⟩
      have ex4 : Ext A H' G' H4 G4 := ex2.trans e4
      cases b with
      | false =>
        rw [if_neg Bool.false_ne_true] at o4
        show (if false = true then _ else _)
        rw [if_neg Bool.false_ne_true]
        obtain ⟨d1, d2⟩ := D2 ex4
        exact ⟨acc, accD, G4, s4, d1, d2, Reps.mono ex4.g accD rA, back m4, ex.trans ex4, o4⟩
      | true =>
        rw [if_pos rfl] at o4
        show (if true = true then _ else _)
        rw [if_pos rfl]
        rw [M.bind_assoc] at o4
        refine ⟨A, H0, G0, en1, G4, s4, m4, (og_nox o4 (ex.trans ex4)).mono fun yd s5 H5 G5 m5 e5 o5 v rv => ?_⟩
        have ex5 : Ext A H' G' H5 G5 := ex4.trans e5
        obtain ⟨d1, d2⟩ := D2 ex5
        -- the rest fits
        rw [M.bind_assoc] at o5
        have hsz : accD.length < 16777216 := by
          unfold M.bind at o5
          cases z : lcL g tv ev (wipeE en vs) (ds.drop (i + 1)) s5 with
          | bad =>
            simp only [z] at o5
            exact o5.elim
          | exc x6 s6 =>
            exfalso
            have noexc : ∀ (es : List D) (s0 : LS) (x0 : Ex) (s9 : LS), lcL g tv ev (wipeE en vs) es s0 ≠ .exc x0 s9 := by
              intro es
              induction es with
              | nil => intro s0 x0 s9 q; cases q
              | cons e0 es ih =>
                intro s0 x0 s9 q
                unfold lcL at q
                cases hg2 : g e0 (wipeE en vs) with
                | none =>
                  rw [hg2] at q
                  cases q
                | some en2 =>
                  simp only [hg2] at q
                  unfold M.bind M.nox at q
                  cases hq : tv en2 s0 with
                  | bad => simp only [hq] at q; cases q
                  | exc x7 s7 => simp only [hq] at q; cases q
                  | ok b7 s7 =>
                    simp only [hq] at q
                    cases b7 with
                    | false =>
                      simp only [Bool.false_eq_true, if_false] at q
                      exact ih _ _ _ q
                    | true =>
                      simp only [if_true] at q
                      cases hq2 : ev en2 s7 with
                      | bad => simp only [hq2] at q; cases q
                      | exc x8 s8 => simp only [hq2] at q; cases q
                      | ok y8 s8 =>
                        simp only [hq2] at q
                        cases hq3 : lcL g tv ev (wipeE en vs) es s8 with
                        | bad => simp only [hq3] at q; cases q
                        | exc x9 s9 => exact ih _ _ _ hq3
                        | ok ys9 s9 => simp only [hq3] at q; cases q
            exact noexc _ _ _ _ z
          | ok ys s6 =>
            simp only [z, M.ret] at o5
            by_cases hz : fits (accD ++ yd :: ys).length = true
            · have := of_decide_eq_true hz
              rw [List.length_append, List.length_cons] at this
              omega
            · rw [if_neg hz] at o5
              exact o5.elim
        refine ⟨acc, d1, by rw [rA.length, sizeLine_eq]; exact hsz, ?_⟩
        -- the list with the new item
        have mo5 : Mt K A H0 G0 σ en H5 G5 s5 := m1.go (ex.trans ex5) m5.sub m5.st
        have eD : Ext A H1 G1 (upd H5 L (.lst (acc ++ [v]))) G5 := ⟨(ex.trans ex5).g, fun a u q nA => by
            rw [upd_ne (ne_of_none q hD)]
            exact (ex.trans ex5).h a u q nA, (ex.trans ex5).n, fun a q => by
            rw [upd_ne (fun z => q (by rw [z]; exact hD))]
            exact (ex.trans ex5).t a q⟩
        have sD : Same G5 (upd H5 L (.lst (acc ++ [v]))) := fun a u q => by
          rw [upd_ne (ne_of_none q d2)]
          exact m5.sub a u q
        have mw5 : Mt K A H0 G0 (L2.wipe σ vs) (wipeE en vs) (upd H5 L (.lst (acc ++ [v]))) G5 s5 := (m1.wipe0 vs).go eD sD (m5.st.upd (m1.nA hD))
        refine ⟨acc ++ [v], accD ++ [yd], G5, s5, upd_same, d2, Reps.append (Reps.mono ex5.g accD rA) (.cons rv .nil), mw5, eD, ?_⟩
        have ef : (fun ys => M.bind (M.ret (yd :: ys)) fun ys => if fits (accD ++ ys).length = true then M.ret (D.lst (accD ++ ys)) else M.no) = fun ys => if fits (accD ++ [yd] ++ ys).length = true then M.ret (D.lst (accD ++ [yd] ++ ys)) else M.no := by
          funext ys
          rw [M.bind_ret, List.append_assoc]
          rfl
        rw [ef] at o5
        exact o5
  · have e : i = ds.length := by omega
    subst e
    refine .inl ⟨y2 (List.getElem?_eq_none (Nat.le_refl _)), ?_⟩
    rw [List.drop_length] at o2
    unfold lcL at o2
    rw [M.bind_ret, List.append_nil] at o2
    by_cases hz : fits accD.length = true
    · rw [if_pos hz] at o2
      exact o2 H' G' mo ex L hHD ⟨hGD, acc, hDl, rA⟩
    · rw [if_neg hz] at o2
      exact o2.elim
theorem pf_lc {elt tg iter : Expr} {ifs : List Expr} {scope : Scope} {own : List (Str × Nat)} {pos : Pos} {lv : AV} {t : TG} {g : GV} {tv : TV} {ev : EV} (hc : X.calm = true) (hN : X.N.Nodup) (hi : PIB X E tg iter lv) (ok : BlkOk X.N X.env.scope scope own) (hl : TgL X.K (own.map (·.2)) t g)
    (hg : ∀ (s : Shared) (H : Hp) (C : Addr) (cl : List (Str × Addr)) (fp : List Addr), PG (X.blk s H scope (compEnvC scope cl C X.env) fp) tg t) (ht : ∀ (s : Shared) (H : Hp) (C : Addr) (cl : List (Str × Addr)) (fp : List Addr), PTsD (X.blk s H scope (compEnvC scope cl C X.env) fp) E0 ifs tv)
    (he : ∀ (s : Shared) (H : Hp) (C : Addr) (cl : List (Str × Addr)) (fp : List Addr), PD (X.blk s H scope (compEnvC scope cl C X.env) fp) E0 elt ev) (hs : ∀ x, foldedSetIterable iter X.env x = pure x := by intro _; rfl) :
    PF X E (.ListComp elt [⟨tg, iter, ifs, 0⟩] scope pos) (eLc lv (own.map (·.2)) g tv ev) :=
  ⟨pe_imp (pe_lc hc hN hi.p ok hg (fun s H C cl fp => (ht s H C cl fp).p) (fun s H C cl fp => (he s H C cl fp).p) hs) fun _ _ _ h => lc_read (E' := E0) rfl hl h⟩
/-- name = [..], the name a plain local: as one's own, or frozen -/
theorem ps_ownLc {i : Nat} {y : Str} {py : Pos} {elt tg iter : Expr} {ifs : List Expr} {scope : Scope} {own : List (Str × Nat)} {pos spos : Pos} {lv : AV} {t : TG} {g : GV} {tv : TV} {ev : EV} (hc : X.calm = true) (hN : X.N.Nodup) (hy : X.N[i]? = some y) (hyl : X.env.scope.names.lookup y = some .local)
    (hsw : swapsWith (.ListComp elt [⟨tg, iter, ifs, 0⟩] scope pos) (some (.Name y py)) spos.line X.env = pure true) (hi : PIB X E tg iter lv) (ok : BlkOk X.N X.env.scope scope own) (hl : TgL X.K (own.map (·.2)) t g)
    (hg : ∀ (s : Shared) (H : Hp) (C : Addr) (cl : List (Str × Addr)) (fp : List Addr), PG (X.blk s H scope (compEnvC scope cl C X.env) fp) tg t) (ht : ∀ (s : Shared) (H : Hp) (C : Addr) (cl : List (Str × Addr)) (fp : List Addr), PTsD (X.blk s H scope (compEnvC scope cl C X.env) fp) E0 ifs tv)
    (he : ∀ (s : Shared) (H : Hp) (C : Addr) (cl : List (Str × Addr)) (fp : List Addr), PD (X.blk s H scope (compEnvC scope cl C X.env) fp) E0 elt ev) (hs : ∀ x, foldedSetIterable iter X.env x = pure x := by intro _; rfl) :
    PSD X E (.Assign [.Name y py] (.ListComp elt [⟨tg, iter, ifs, 0⟩] scope pos) spos) (sOwn i (eLc lv (own.map (·.2)) g tv ev)) :=
  ⟨ps_imp (ps_setLc hc hN hy hyl hsw hi.p ok hg (fun s H C cl fp => (ht s H C cl fp).p) (fun s H C cl fp => (he s H C cl fp).p) hs) fun T σ H h => lc_read (E' := E0) rfl hl (rs_own h)⟩
theorem rf_d {K mg} {ev : EV} {σ : L2.St} {H : Hp} {Q : VK} (h : RE K mg E ev σ H Q) : (∀ A H0 G0 en G s, Mt K A H0 G0 σ en H G s → ∀ d s', ev en s = .ok d s' → ∃ ds, d = .lst ds) → RF K mg E ev σ H Q := fun hd => by
  obtain ⟨A, H0, G0, en, G, s, m, o⟩ := h
  refine ⟨A, H0, G0, en, G, s, m, ?_⟩
  have hd := hd A H0 G0 en G s m
  cases q : ev en s with
  | ok d s' =>
    rw [q] at o
    intro H' G' m' e p hp r
    obtain ⟨ob, h1, h2, h3⟩ := r.frz
    obtain ⟨m2, e2⟩ := frz_ok m hp m' e h1 h2
    exact o H' _ m2 e2 _ h3
  | exc x s' =>
    rw [q] at o
    exact o
  | bad =>
    rw [q] at o
    exact o
theorem lc_lst {lv : AV} {vs : List Nat} {g : GV} {tv : TV} {ev : EV} {en : Env} {s s' : LS} {d : D} (h : eLc lv vs g tv ev en s = .ok d s') : ∃ ds, d = .lst ds := by
  unfold eLc M.bind at h
  cases z : lv en s with
  | ok ds s1 =>
    simp only [z] at h
    split at h
    · cases h
    · cases z2 : lcL g tv ev (wipeE en vs) ds s1 with
      | ok ys s2 =>
        simp only [z2] at h
        split at h
        · cases h
          exact ⟨_, rfl⟩
        · cases h
      | exc x s2 => simp only [z2] at h; cases h
      | bad => simp only [z2] at h; cases h
  | exc x s1 => simp only [z] at h; cases h
  | bad => simp only [z] at h; cases h
theorem ps_setLcD {i : Nat} {y : Str} {py : Pos} {elt tg iter : Expr} {ifs : List Expr} {scope : Scope} {own : List (Str × Nat)} {pos spos : Pos} {lv : AV} {t : TG} {g : GV} {tv : TV} {ev : EV} (hc : X.calm = true) (hN : X.N.Nodup) (hy : X.N[i]? = some y) (hyl : X.env.scope.names.lookup y = some .local)
    (hsw : swapsWith (.ListComp elt [⟨tg, iter, ifs, 0⟩] scope pos) (some (.Name y py)) spos.line X.env = pure true) (hi : PIB X E tg iter lv) (ok : BlkOk X.N X.env.scope scope own) (hl : TgL X.K (own.map (·.2)) t g)
    (hg : ∀ (s : Shared) (H : Hp) (C : Addr) (cl : List (Str × Addr)) (fp : List Addr), PG (X.blk s H scope (compEnvC scope cl C X.env) fp) tg t) (ht : ∀ (s : Shared) (H : Hp) (C : Addr) (cl : List (Str × Addr)) (fp : List Addr), PTsD (X.blk s H scope (compEnvC scope cl C X.env) fp) E0 ifs tv)
    (he : ∀ (s : Shared) (H : Hp) (C : Addr) (cl : List (Str × Addr)) (fp : List Addr), PD (X.blk s H scope (compEnvC scope cl C X.env) fp) E0 elt ev) (hs : ∀ x, foldedSetIterable iter X.env x = pure x := by intro _; rfl) :
    PSD X E (.Assign [.Name y py] (.ListComp elt [⟨tg, iter, ifs, 0⟩] scope pos) spos) (sAsg (eLc lv (own.map (·.2)) g tv ev) (tgN i)) :=
  ⟨ps_imp (ps_setLc hc hN hy hyl hsw hi.p ok hg (fun s H C cl fp => (ht s H C cl fp).p) (fun s H C cl fp => (he s H C cl fp).p) hs) fun T σ H h => lc_read (E' := E0) rfl hl (rf_d (rs_asg (tgl_name (vs := [i]) List.mem_cons_self) h) fun _ _ _ _ _ _ _ _ _ => lc_lst)⟩
end

/-! ### defs -/
def runD (n N : Nat) (sv : SV) : List D → M D := fun ds => M.bind (sv (ds.map Slot.sh ++ List.replicate (N - n) .un)) fun f => match f with
  | .rt d => M.ret d
  | .nx _ => M.ret .non
  | _ => M.no
section
variable {P : Program} {w : World} {K : PySem.W.Frag} {mg : Str → Option Value} {base : Heap}
theorem start_mt {A : AA} {H G : Hp} {vs : List V} {ds : List D} {s : LS} {N : List Str} {n : Nat} (hn : ds.length = n) (sub : Same G H) (st : StOk A H G s) (r : Reps K A G vs ds) (hv : vs.length = n) : Mt K A H G (L2.start N vs) (ds.map Slot.sh ++ List.replicate (N.length - n) .un) H G s := by
  have noown : ∀ j, (slot (ds.map Slot.sh ++ List.replicate (N.length - n) .un) j).own = false := fun j => by
    unfold slot
    by_cases hj : j < ds.length
    · rw [List.getElem?_append_left (by rw [List.length_map]; exact hj), List.getElem?_map, List.getElem?_eq_getElem hj]
      rfl
    · rw [List.getElem?_append_right (by rw [List.length_map]; omega), List.length_map]
      by_cases hk : j - ds.length < N.length - n
      · rw [List.getElem?_replicate, if_pos hk]
        rfl
      · rw [List.getElem?_replicate, if_neg hk]
        rfl
  refine ⟨?_, fun j => ?_, fun j k _ h1 _ => ?_, sub, .refl, st⟩
  · unfold L2.start
    rw [List.length_append, List.length_append, List.length_map, List.length_map, List.length_replicate, List.length_replicate, hn, hv]
  · by_cases hj : j < ds.length
    · have e : slot (ds.map Slot.sh ++ List.replicate (N.length - n) .un) j = .sh ds[j] := by
        unfold slot
        rw [List.getElem?_append_left (by rw [List.length_map]; exact hj), List.getElem?_map, List.getElem?_eq_getElem hj]
        rfl
      rw [e]
      obtain ⟨x, hx, rx⟩ := r.get (List.getElem?_eq_getElem hj)
      refine ⟨x, ?_, rx⟩
      unfold L2.start
      rw [List.getElem?_append_left (by rw [List.length_map, hv]; omega), List.getElem?_map, hx]
      rfl
    · have e : slot (ds.map Slot.sh ++ List.replicate (N.length - n) .un) j = .un := by
        unfold slot
        rw [List.getElem?_append_right (by rw [List.length_map]; omega), List.length_map, List.getElem?_replicate]
        split <;> rfl
      rw [e]
      exact trivial
  · rw [noown j] at h1
    cases h1
theorem def_ok {x qual : Str} {st : Stmt} {f : Addr} {fd : FuncData} {N ps : List Str} {k n : Nat} {sv : SV} (F : Fun K x qual st f fd) (S : FnScope N ps (defScope st)) (hn : ps.length = n)
    (hbody : ∀ (cdv : Value) (A : Around) (outer : List PySem.Env) (s : Shared) (H : Hp) (E : XK), Room k (A.deeper (envOfC qual (defScope st) s.heap.objs.size f cdv)) → PSsD (cxOf CX0 P w K mg base N qual (defScope st) f cdv A outer s H E).nox L2.E0 (defBody st) sv) :
    FnOk P w K mg base CX0 (k + 1) f fd ps (spD K mg n fun ds => M.nox (runD n N.length sv ds)) := by
  refine F.ok S (fun vs H Q E h => h.1.trans hn.symm) (fun cdv A outer s H vs Q E hr h => ?_)
  obtain ⟨hv, AA, G, ds, s0, sub, stt, r, o⟩ := h
  refine ⟨_, (hbody cdv A outer s H E hr).p, AA, H, G, _, G, s0, start_mt (N := N) (r.length.symm.trans hv) sub stt r hv, ?_⟩
  unfold M.nox runD M.bind at o
  show Os K mg L2.E0 AA H G G _ _
  cases q : sv (ds.map Slot.sh ++ List.replicate (N.length - n) .un) s0 with
  | bad =>
    simp only [q] at o
  | exc x1 s1 =>
    simp only [q] at o
  | ok f1 s1 =>
    simp only [q] at o
    cases f1 with
    | nx en1 => exact fun σ' H' G' m' e' => o _ H' G' m'.ext m'.sub m'.st rfl
    | rt d => exact fun v H' G' e sb st r => o v H' G' e sb st r
    | bk en1 => exact o.elim
    | ct en1 => exact o.elim
end
end DL

set_option Elab.async false
set_option linter.all false
set_option maxRecDepth 100000
set_option maxHeartbeats 4000000
/-! More statements and operators by data; the law's state. -/
namespace DL
open PySem PySem.Spec PyProof.Rows L2
section
variable {K : PySem.W.Frag} {mg : Str → Option Value} {E : XK}
/-! ### is of bools -/
def isBlD : D → D → M D
  | .bl a, .bl b => M.ret (.bl (decide (a = b)))
  | _, _ => M.no
def notBlD : D → D → M D
  | .bl a, .bl b => M.ret (.bl (!decide (a = b)))
  | _, _ => M.no
theorem isBl_ok : OpD K mg E rIsB isBlD := by
  intro A H0 G0 σ en H G s x y dx dy Q m hx hy o
  unfold isBlD at o
  split at o
  · exact ⟨_, _, hx, hy, og_ret m o rfl⟩
  · exact o.elim
theorem notBl_ok : OpD K mg E rNotB notBlD := by
  intro A H0 G0 σ en H G s x y dx dy Q m hx hy o
  unfold notBlD at o
  split at o
  · exact ⟨_, _, hx, hy, og_ret m o rfl⟩
  · exact o.elim
end
/-! ### several names at once -/
def sPar2 (i j : Nat) (av : AV) : SV := fun en => M.bind (av en) fun ds => match ds with
  | [a, b] => M.ret (.nx ((en.set i (.sh a)).set j (.sh b)))
  | _ => M.no
def sPar3 (i j l : Nat) (av : AV) : SV := fun en => M.bind (av en) fun ds => match ds with
  | [a, b, c] => M.ret (.nx (((en.set i (.sh a)).set j (.sh b)).set l (.sh c)))
  | _ => M.no
section
variable {X : Cx} {E : XK} {pos : Pos}
theorem ps_par2D {i j : Nat} {x y : Str} {a b : Expr} {av : AV} {px py pt : Pos} {kt k2 pt2} (hc : X.calm = true) (hN : X.N.Nodup) (hi : X.N[i]? = some x) (hj : X.N[j]? = some y) (hij : i ≠ j) (hx : X.env.scope.names.lookup x = some .local) (hy : X.env.scope.names.lookup y = some .local) (ha : PAD X E [a, b] av)
    (hw : swappedStores [.Tuple [.Name x px, .Name y py] kt pt] (.Tuple [a, b] k2 pt2) X.env = pure (some [x, y])) (hs : swapsWithSole [.Tuple [.Name x px, .Name y py] kt pt] (.Tuple [a, b] k2 pt2) pos.line X.env = pure false := by rfl) :
    PSD X E (.Assign [.Tuple [.Name x px, .Name y py] kt pt] (.Tuple [a, b] k2 pt2) pos) (sPar2 i j av) := by
  refine ⟨ps_imp (ps_par hc hN hi hj hij hx hy ha.p hw hs) fun T σ H ⟨A, H0, G0, en, G, s, m, o⟩ => ?_⟩
  refine ⟨A, H0, G0, en, G, s, m, (Os.bind o).mono fun ds s1 H1 G1 m1 e1 o1 vs rs => ?_⟩
  split at o1
  · obtain ⟨v, r, rfl, h1, w, r2, rfl, h2, h3⟩ := rs
    cases (show r2 = [] from h3)
    exact ⟨v, w, rfl, o1 _ H1 G1 ((m1.setS h1).setS h2) (.refl G1)⟩
  · exact o1.elim
theorem ps_par3D {i j l : Nat} {x y z : Str} {a b c : Expr} {av : AV} {px py pz pt : Pos} {kt k2 pt2} (hc : X.calm = true) (hN : X.N.Nodup) (hi : X.N[i]? = some x) (hj : X.N[j]? = some y) (hl : X.N[l]? = some z) (hij : i ≠ j) (hil : i ≠ l) (hjl : j ≠ l)
    (hx : X.env.scope.names.lookup x = some .local) (hy : X.env.scope.names.lookup y = some .local) (hz : X.env.scope.names.lookup z = some .local) (ha : PAD X E [a, b, c] av)
    (hw : swappedStores [.Tuple [.Name x px, .Name y py, .Name z pz] kt pt] (.Tuple [a, b, c] k2 pt2) X.env = pure (some [x, y, z])) (hs : swapsWithSole [.Tuple [.Name x px, .Name y py, .Name z pz] kt pt] (.Tuple [a, b, c] k2 pt2) pos.line X.env = pure false := by rfl) :
    PSD X E (.Assign [.Tuple [.Name x px, .Name y py, .Name z pz] kt pt] (.Tuple [a, b, c] k2 pt2) pos) (sPar3 i j l av) := by
  refine ⟨ps_imp (ps_par3 hc hN hi hj hl hij hil hjl hx hy hz ha.p hw hs) fun T σ H ⟨A, H0, G0, en, G, s, m, o⟩ => ?_⟩
  refine ⟨A, H0, G0, en, G, s, m, (Os.bind o).mono fun ds s1 H1 G1 m1 e1 o1 vs rs => ?_⟩
  split at o1
  · obtain ⟨v, r, rfl, h1, w, r2, rfl, h2, u, r3, rfl, h3, h4⟩ := rs
    cases (show r3 = [] from h4)
    exact ⟨v, w, u, rfl, o1 _ H1 G1 (((m1.setS h1).setS h2).setS h3) (.refl G1)⟩
  · exact o1.elim
/-! ### one's own list changed -/
theorem own_lt {en : Env} {i : Nat} {x : Slot} (h : slot en i = x) (hx : x ≠ .un) : i < en.length := by
  by_cases hi : i < en.length
  · exact hi
  · unfold slot at h
    rw [List.getElem?_eq_none (by omega)] at h
    exact absurd h.symm hx
def sApp (i : Nat) (ev : EV) : SV := fun en => match slot en i with
  | .ow ds => M.bind (ev en) fun d => if fits (ds.length + 1) = true then M.ret (.nx (en.set i (.ow (ds ++ [d])))) else M.no
  | _ => M.no
theorem rs_app {K mg} {i : Nat} {ev : EV} {T : Ends} {σ : L2.St} {H : Hp} (h : RS K mg E (sApp i ev) T σ H) : tDrop (tBM K "list" rAppend (tVar i) (tCons (RE K mg E ev) tNil)) T σ H := by
  obtain ⟨A, H0, G0, en, G, s, m, o⟩ := h
  cases q : slot en i with
  | ow ds =>
    have z := m.sl i
    rw [q] at z
    obtain ⟨a, xs, g1, g2, g3, g4, g5, g6⟩ := z
    unfold sApp at o
    simp only [q] at o
    refine ⟨.ref a, g1, .inl ⟨rfl, _, SqL.of g2⟩, A, H0, G0, en, G, s, m, (Os.bind o).mono fun d s1 H1 G1 m1 e1 o1 v r => ?_⟩
    by_cases hz : fits (ds.length + 1) = true
    · rw [if_pos hz] at o1
      have z := m1.sl i
      rw [q] at z
      obtain ⟨a', xs', g1', g2', g3', g4', g5', g6'⟩ := z
      rw [g1] at g1'
      cases g1'
      refine ⟨a, xs', v, rfl, rfl, g2', ?_, o1 σ _ G1 (m1.wr (own_lt q (by intro h; cases h)) (by rw [q]; rfl) g1 rfl ?_) (.refl G1)⟩
      · have := fits_ok hz
        rw [g6'.length]
        omega
      · exact ⟨a, xs' ++ [v], rfl, upd_same, g3', g4', g5', Reps.append g6' (.cons r .nil)⟩
    · rw [if_neg hz] at o1
      exact o1.elim
  | _ =>
    unfold sApp at o
    simp only [q] at o
    exact o.elim
theorem ps_appD {i : Nat} {e : Expr} {ev : EV} {o : Expr} {apos cpos : Pos} (ho : PE X o (tVar i)) (he : PD X E e ev) (hpe : ∀ {t : TA}, PA X [e] t → PE X (.Call (.Attribute o "append" apos) [e] [] cpos) (tBM X.K "list" rAppend (tVar i) t))
    (h1 : starEach [e] X.env = (false, eval e X.env) :: starEach [] X.env := by rfl) (hs : swapsWith (.Call (.Attribute o "append" apos) [e] [] cpos) none pos.line X.env = pure false := by rfl) :
    PSD X E (.Expr (.Call (.Attribute o "append" apos) [e] [] cpos) pos) (sApp i ev) := ⟨ps_imp (ps_expr (hpe (pa_cons he.p pa_nil h1)) hs) fun _ _ _ h => rs_app h⟩
end

/-! ### the law's state: the next number below a bound -/
def takeM (most : Int) : M D := fun s =>
  if most < 2 then .ok (.int 0) s
  else if s.cells.length = 0 ∨ ¬ most.natAbs < 2 ^ 8000 then .bad
  else
    let k := (s.pos % (s.cells.length : Int)).toNat
    let c := s.cells.getD k 0
    if 1000000000000000000 ≤ c then .ok (.int (c % most)) { s with cells := s.cells.set k (c / most) }
    else .ok (.int ((((c * 48271 + (s.pos + 1) * 69621) % 2147483647) * 16807 + (s.pos + 1) * 7919) % 1000000007 / 7 % most)) { s with pos := s.pos + 1 }
def takeF : List D → M D
  | [.stt, .int most] => takeM most
  | _ => M.no
end DL

set_option Elab.async false
set_option linter.all false
set_option maxRecDepth 100000
set_option maxHeartbeats 4000000
/-! Reckoning with mirrors: equations, loops, comprehensions. -/
namespace DL
open PySem PySem.Spec PyProof.Rows L2

/-! ### equations -/
@[simp] theorem eC_ap (d : D) (en : Env) : eC d en = M.ret d := id rfl
@[simp] theorem eVar_ap (i : Nat) (en : Env) : eVar i en = match slot en i with
  | .sh d => M.ret d
  | _ => M.no := id rfl
@[simp] theorem eBor_ap (i : Nat) (en : Env) : eBor i en = match slot en i with
  | .sh d => M.ret d
  | .ow ds => M.ret (.lst ds)
  | .owK ds => M.ret (.dK ds)
  | .owT ds => M.ret (.dT ds)
  | .un => M.no := id rfl
@[simp] theorem slot_zero (x : Slot) (en : Env) : slot (x :: en) 0 = x := id rfl
@[simp] theorem slot_succ (x : Slot) (en : Env) (i : Nat) : slot (x :: en) (i + 1) = slot en i := id rfl
@[simp] theorem eBin_ap (f : D → D → M D) (a b : EV) (en : Env) : eBin f a b en = M.bind (a en) fun x => M.bind (b en) fun y => f x y := id rfl
@[simp] theorem eUn_ap (f : D → M D) (a : EV) (en : Env) : eUn f a en = M.bind (a en) f := id rfl
@[simp] theorem eT_ap (a : EV) (en : Env) : eT a en = M.bind (a en) fun d => match d with
  | .bl b => M.ret b
  | _ => M.no := id rfl
@[simp] theorem eChain_ap (f g : D → D → M D) (a b c : EV) (en : Env) : eChain f g a b c en = M.bind (a en) fun x => M.bind (b en) fun y => M.bind (f x y) fun z => match z with
  | .bl true => M.bind (c en) fun w => g y w
  | .bl false => M.ret (.bl false)
  | _ => M.no := id rfl
@[simp] theorem tvNot_ap (t : TV) (en : Env) : tvNot t en = M.bind (t en) fun b => M.ret (!b) := id rfl
@[simp] theorem tvAnd_ap (t u : TV) (en : Env) : tvAnd t u en = M.bind (t en) fun b => if b = true then u en else M.ret false := id rfl
@[simp] theorem tvOr_ap (t u : TV) (en : Env) : tvOr t u en = M.bind (t en) fun b => if b = true then M.ret true else u en := id rfl
@[simp] theorem tvYes_ap (en : Env) : tvYes en = M.ret true := id rfl
@[simp] theorem eAnd_ap (a b : EV) (en : Env) : eAnd a b en = M.bind (a en) fun x => match x with
  | .bl true => b en
  | .bl false => M.ret (.bl false)
  | _ => M.no := id rfl
@[simp] theorem eOr_ap (a b : EV) (en : Env) : eOr a b en = M.bind (a en) fun x => match x with
  | .bl false => b en
  | .bl true => M.ret (.bl true)
  | _ => M.no := id rfl
@[simp] theorem eNot_ap (a : EV) (en : Env) : eNot a en = M.bind (a en) fun x => match x with
  | .bl b => M.ret (.bl (!b))
  | _ => M.no := id rfl
@[simp] theorem eIf_ap (t : TV) (a b : EV) (en : Env) : eIf t a b en = M.bind (t en) fun k => if k = true then a en else b en := id rfl
@[simp] theorem aNil_ap (en : Env) : aNil en = M.ret [] := id rfl
@[simp] theorem aCons_ap (a : EV) (av : AV) (en : Env) : aCons a av en = M.bind (a en) fun x => M.bind (av en) fun xs => M.ret (x :: xs) := id rfl
@[simp] theorem eTup_ap (av : AV) (en : Env) : eTup av en = M.bind (av en) fun ds => if fits ds.length = true then M.ret (.tup ds) else M.no := id rfl
@[simp] theorem eLst_ap (av : AV) (en : Env) : eLst av en = M.bind (av en) fun ds => if fits ds.length = true then M.ret (.lst ds) else M.no := id rfl
@[simp] theorem eCall_ap (f : List D → M D) (av : AV) (en : Env) : eCall f av en = M.bind (av en) f := id rfl
@[simp] theorem eIsi_ap (n : String) (a : EV) (en : Env) : eIsi n a en = M.bind (a en) (isiD n) := id rfl
@[simp] theorem eSl_ap (a : EV) (lo hi : OV) (en : Env) : eSl a lo hi en = M.bind (a en) fun d => M.bind (lo en) fun l => M.bind (hi en) fun h => slD d l h := id rfl
@[simp] theorem oNone_ap (en : Env) : oNone en = M.ret none := id rfl
@[simp] theorem oSome_ap (a : EV) (en : Env) : oSome a en = M.bind (a en) fun d => match d with
  | .int i => M.ret (some i)
  | _ => M.no := id rfl
@[simp] theorem eSeq_ap (a : EV) (en : Env) : eSeq a en = M.bind (a en) itemsD := id rfl
@[simp] theorem eRng_ap (av : AV) (en : Env) : eRng av en = M.bind (av en) rngD := id rfl
@[simp] theorem eLc_ap (lv : AV) (vs : List Nat) (g : GV) (t : TV) (e : EV) (en : Env) : eLc lv vs g t e en = M.bind (lv en) fun ds => if (vs.any fun i => (slot en i).own) = true then M.no else M.bind (lcL g t e (wipeE en vs) ds) fun ys => if fits ys.length = true then M.ret (.lst ys) else M.no := id rfl
@[simp] theorem sNil_ap (en : Env) : sNil en = M.ret (.nx en) := id rfl
@[simp] theorem sSeq_ap (a b : SV) (en : Env) : sSeq a b en = M.bind (a en) fun f => match f with
  | .nx en1 => b en1
  | f => M.ret f := id rfl
@[simp] theorem sRet_ap (a : EV) (en : Env) : sRet a en = M.bind (a en) fun d => M.ret (.rt d) := id rfl
@[simp] theorem sRetN_ap (en : Env) : sRetN en = M.ret (.rt .non) := id rfl
@[simp] theorem sBreak_ap (en : Env) : sBreak en = M.ret (.bk en) := id rfl
@[simp] theorem sCont_ap (en : Env) : sCont en = M.ret (.ct en) := id rfl
@[simp] theorem sExpr_ap (a : EV) (en : Env) : sExpr a en = M.bind (a en) fun _ => M.ret (.nx en) := id rfl
@[simp] theorem sIf_ap (t : TV) (a b : SV) (en : Env) : sIf t a b en = M.bind (t en) fun k => if k = true then a en else b en := id rfl
@[simp] theorem tgN_ap (i : Nat) (d : D) (en : Env) : tgN i d en = some (en.set i (.sh d)) := id rfl
@[simp] theorem tgsNil_ap (en : Env) : tgsNil [] en = some en := id rfl
@[simp] theorem tgsCons_ap (g : GV) (gs : List D → Env → Option Env) (d : D) (ds : List D) (en : Env) : tgsCons g gs (d :: ds) en = (g d en).bind fun en1 => gs ds en1 := id rfl
@[simp] theorem tgT_ap (n : Nat) (gs : List D → Env → Option Env) (ds : List D) (en : Env) : tgT n gs (.tup ds) en = if ds.length = n then gs ds en else none := id rfl
@[simp] theorem sAsg_ap (a : EV) (g : GV) (en : Env) : sAsg a g en = M.bind (a en) fun d => match g d en with
  | some en1 => M.ret (.nx en1)
  | none => M.no := id rfl
@[simp] theorem sOwn_ap (i : Nat) (a : EV) (en : Env) : sOwn i a en = M.bind (a en) fun d => M.ret (.nx (en.set i (Slot.ofD d))) := id rfl
@[simp] theorem sFrz_ap (i : Nat) (sv : SV) (en : Env) : sFrz i sv en = sv (en.set i (frzS (slot en i))) := id rfl
@[simp] theorem sPar2_ap (i j : Nat) (av : AV) (en : Env) : sPar2 i j av en = M.bind (av en) fun ds => match ds with
  | [a, b] => M.ret (.nx ((en.set i (.sh a)).set j (.sh b)))
  | _ => M.no := id rfl
@[simp] theorem sPar3_ap (i j l : Nat) (av : AV) (en : Env) : sPar3 i j l av en = M.bind (av en) fun ds => match ds with
  | [a, b, c] => M.ret (.nx (((en.set i (.sh a)).set j (.sh b)).set l (.sh c)))
  | _ => M.no := id rfl
@[simp] theorem sFor_ap (lv : AV) (g : GV) (b : SV) (en : Env) : sFor lv g b en = M.bind (lv en) fun ds => forL g b ds en := id rfl
@[simp] theorem sWhile_ap (t : TV) (b : SV) (en : Env) : sWhile t b en = whileN t b fuel en := id rfl
@[simp] theorem itemsD_lst (ds : List D) : itemsD (.lst ds) = M.ret ds := id rfl
@[simp] theorem itemsD_tup (ds : List D) : itemsD (.tup ds) = M.ret ds := id rfl
@[simp] theorem fits_small (n : Nat) (h : n ≤ 16777216) : fits n = true := decide_eq_true h
@[simp] theorem wipeE_nil (en : Env) : wipeE en [] = en := id rfl
@[simp] theorem wipeE_cons (en : Env) (v : Nat) (vs : List Nat) : wipeE en (v :: vs) = (wipeE en vs).set v .un := id rfl
@[simp] theorem own_un : Slot.own .un = false := id rfl
@[simp] theorem own_sh (d : D) : Slot.own (.sh d) = false := id rfl
@[simp] theorem frzS_ow (ds : List D) : frzS (.ow ds) = .sh (.lst ds) := id rfl
@[simp] theorem frzS_sh (d : D) : frzS (.sh d) = .sh d := id rfl
@[simp] theorem addD_int (i j : Int) : addD (.int i) (.int j) = M.ret (.int (i + j)) := id rfl
@[simp] theorem subD_int (i j : Int) : subD (.int i) (.int j) = M.ret (.int (i - j)) := id rfl
@[simp] theorem negD_int (i : Int) : negD (.int i) = M.ret (.int (-i)) := id rfl
@[simp] theorem ltD_int (i j : Int) : ltD (.int i) (.int j) = M.ret (.bl (decide (i < j))) := id rfl
@[simp] theorem leD_int (i j : Int) : leD (.int i) (.int j) = M.ret (.bl (decide (i ≤ j))) := id rfl
@[simp] theorem gtD_int (i j : Int) : gtD (.int i) (.int j) = M.ret (.bl (decide (j < i))) := id rfl
@[simp] theorem geD_int (i j : Int) : geD (.int i) (.int j) = M.ret (.bl (decide (j ≤ i))) := id rfl
theorem mulD_int {i j : Int} (h : (small i || small j || (big i && big j)) = true) : mulD (.int i) (.int j) = M.ret (.int (i * j)) := by
  show (if _ then _ else _) = _
  rw [if_pos h]
theorem mulD_big {i j : Int} (h1 : big i = true) (h2 : big j = true) : mulD (.int i) (.int j) = M.ret (.int (i * j)) := mulD_int (by rw [h1, h2]; simp)
theorem fdivD_int {i j : Int} (h1 : 0 < j) (h2 : j.natAbs < 2 ^ 8000) : fdivD (.int i) (.int j) = M.ret (.int (i / j)) := by
  show (if _ then _ else _) = _
  rw [if_pos (by rw [Bool.and_eq_true]; exact ⟨decide_eq_true h1, decide_eq_true h2⟩)]
theorem modD_int {i j : Int} (h1 : 0 < j) : modD (.int i) (.int j) = M.ret (.int (i % j)) := by
  show (if _ then _ else _) = _
  rw [if_pos (decide_eq_true h1)]
@[simp] theorem intF_int (i : Int) : intF [.int i] = M.ret (.int i) := id rfl
@[simp] theorem absF_int (i : Int) : absF [.int i] = M.ret (.int (if i < 0 then -i else i)) := id rfl
@[simp] theorem lenF_lst (ds : List D) : lenF [.lst ds] = M.ret (.int ds.length) := id rfl
@[simp] theorem lenF_tup (ds : List D) : lenF [.tup ds] = M.ret (.int ds.length) := id rfl
@[simp] theorem tupleF_lst (ds : List D) : tupleF [.lst ds] = M.ret (.tup ds) := id rfl
@[simp] theorem tupleF_tup (ds : List D) : tupleF [.tup ds] = M.ret (.tup ds) := id rfl
@[simp] theorem listF_lst (ds : List D) : listF [.lst ds] = M.ret (.lst ds) := id rfl
@[simp] theorem listF_tup (ds : List D) : listF [.tup ds] = M.ret (.lst ds) := id rfl
@[simp] theorem isNonD_non (d : D) : isNonD d .non = M.ret (.bl d.isN) := by cases d <;> rfl
@[simp] theorem notNonD_non (d : D) : notNonD d .non = M.ret (.bl (!d.isN)) := by cases d <;> rfl
@[simp] theorem isBlD_bl (a b : Bool) : isBlD (.bl a) (.bl b) = M.ret (.bl (decide (a = b))) := id rfl
@[simp] theorem notBlD_bl (a b : Bool) : notBlD (.bl a) (.bl b) = M.ret (.bl (!decide (a = b))) := id rfl
theorem ixD_tup {ds : List D} {i : Nat} {d : D} (h : ds[i]? = some d) : ixD (.tup ds) (.int i) = M.ret d := by
  show M.opt (L2.atI ds (i : Int)) = _
  rw [atI_nat h]
  rfl
theorem ixD_lst {ds : List D} {i : Nat} {d : D} (h : ds[i]? = some d) : ixD (.lst ds) (.int i) = M.ret d := by
  show M.opt (L2.atI ds (i : Int)) = _
  rw [atI_nat h]
  rfl
@[simp] theorem ixD_t0 (a : D) (r : List D) : ixD (.tup (a :: r)) (.int 0) = M.ret a := ixD_tup (i := 0) rfl
@[simp] theorem ixD_t1 (a b : D) (r : List D) : ixD (.tup (a :: b :: r)) (.int 1) = M.ret b := ixD_tup (i := 1) rfl
@[simp] theorem ixD_t2 (a b c : D) (r : List D) : ixD (.tup (a :: b :: c :: r)) (.int 2) = M.ret c := ixD_tup (i := 2) rfl
@[simp] theorem ixD_t3 (a b c d : D) (r : List D) : ixD (.tup (a :: b :: c :: d :: r)) (.int 3) = M.ret d := ixD_tup (i := 3) rfl
theorem eqD_of {a b : D} (ha : shal 40 a = true) (hb : shal 40 b = true) : eqD a b = M.ret (.bl (deq a b)) := by
  unfold eqD
  rw [ha, hb]
  rfl
theorem neD_of {a b : D} (ha : shal 40 a = true) (hb : shal 40 b = true) : neD a b = M.ret (.bl (!deq a b)) := by
  unfold neD
  rw [ha, hb]
  rfl
theorem deq_self {n : Nat} {d : D} (h : shal n d = true) : deq d d = true := SeqAt.eqv_refl d.toP (shal_lay n d h).1
theorem eqD_self {d : D} (h : shal 40 d = true) : eqD d d = M.ret (.bl true) := by rw [eqD_of h h, deq_self h]
theorem neD_self {d : D} (h : shal 40 d = true) : neD d d = M.ret (.bl false) := by rw [neD_of h h, deq_self h]; rfl
@[simp] theorem eqD_int (i j : Int) : eqD (.int i) (.int j) = M.ret (.bl (i == j)) := id rfl
@[simp] theorem neD_int (i j : Int) : neD (.int i) (.int j) = M.ret (.bl (!(i == j))) := id rfl
@[simp] theorem eqD_bl (i j : Bool) : eqD (.bl i) (.bl j) = M.ret (.bl (i == j)) := id rfl
@[simp] theorem neD_bl (i j : Bool) : neD (.bl i) (.bl j) = M.ret (.bl (!(i == j))) := id rfl

theorem isiD_of {n : String} {d : D} {t : String} {b : Bool} (h1 : d.ty = some t) (h2 : kitB t n = some b) : isiD n d = M.ret (.bl b) := by
  unfold isiD
  simp only [h1, h2]
theorem kit_tt : kitB "tuple" "tuple" = some true := by decide +kernel
theorem kit_lt : kitB "list" "tuple" = some false := by decide +kernel
theorem kit_it : kitB "int" "tuple" = some false := by decide +kernel
theorem kit_bt : kitB "bool" "tuple" = some false := by decide +kernel
theorem kit_st : kitB "str" "tuple" = some false := by decide +kernel
theorem kit_nt : kitB "NoneType" "tuple" = some false := by decide +kernel
theorem kit_dt : kitB "dict" "tuple" = some false := by decide +kernel
theorem kit_ti : kitB "tuple" "int" = some false := by decide +kernel
theorem kit_li : kitB "list" "int" = some false := by decide +kernel
theorem kit_ii : kitB "int" "int" = some true := by decide +kernel
theorem kit_bi : kitB "bool" "int" = some true := by decide +kernel
theorem kit_si : kitB "str" "int" = some false := by decide +kernel
theorem kit_ni : kitB "NoneType" "int" = some false := by decide +kernel
theorem kit_di : kitB "dict" "int" = some false := by decide +kernel
theorem kit_tb : kitB "tuple" "bool" = some false := by decide +kernel
theorem kit_lb : kitB "list" "bool" = some false := by decide +kernel
theorem kit_ib : kitB "int" "bool" = some false := by decide +kernel
theorem kit_bb : kitB "bool" "bool" = some true := by decide +kernel
theorem kit_sb : kitB "str" "bool" = some false := by decide +kernel
theorem kit_nb : kitB "NoneType" "bool" = some false := by decide +kernel
theorem kit_db : kitB "dict" "bool" = some false := by decide +kernel
def D.isTup : D → Bool
  | .tup _ => true
  | _ => false
/-- an int that is no bool -/
def D.isI : D → Bool
  | .int _ => true
  | _ => false
def D.isB : D → Bool
  | .bl _ => true
  | _ => false
def D.isS : D → Bool
  | .stt => true
  | _ => false
theorem isiD_tup {d : D} (h : d.isS = false) : isiD "tuple" d = M.ret (.bl d.isTup) := by
  cases d with
  | non => exact isiD_of rfl kit_nt
  | bl b => exact isiD_of rfl kit_bt
  | int b => exact isiD_of rfl kit_it
  | str b => exact isiD_of rfl kit_st
  | tup b => exact isiD_of rfl kit_tt
  | lst b => exact isiD_of rfl kit_lt
  | dK b => exact isiD_of rfl kit_dt
  | dT b => exact isiD_of rfl kit_dt
  | stt => cases h
theorem isiD_int {d : D} (h : d.isS = false) : isiD "int" d = M.ret (.bl (d.isI || d.isB)) := by
  cases d with
  | non => exact isiD_of rfl kit_ni
  | bl b => exact isiD_of rfl kit_bi
  | int b => exact isiD_of rfl kit_ii
  | str b => exact isiD_of rfl kit_si
  | tup b => exact isiD_of rfl kit_ti
  | lst b => exact isiD_of rfl kit_li
  | dK b => exact isiD_of rfl kit_di
  | dT b => exact isiD_of rfl kit_di
  | stt => cases h
theorem isiD_bool {d : D} (h : d.isS = false) : isiD "bool" d = M.ret (.bl d.isB) := by
  cases d with
  | non => exact isiD_of rfl kit_nb
  | bl b => exact isiD_of rfl kit_bb
  | int b => exact isiD_of rfl kit_ib
  | str b => exact isiD_of rfl kit_sb
  | tup b => exact isiD_of rfl kit_tb
  | lst b => exact isiD_of rfl kit_lb
  | dK b => exact isiD_of rfl kit_db
  | dT b => exact isiD_of rfl kit_db
  | stt => cases h
theorem allF_map (bs : List Bool) : allF [.lst (bs.map D.bl)] = M.ret (.bl (bs.all id)) := by
  show M.bind (M.opt (D.bls (bs.map D.bl))) _ = _
  rw [D.bls_map]
  rfl
theorem anyF_map (bs : List Bool) : anyF [.lst (bs.map D.bl)] = M.ret (.bl (bs.any id)) := by
  show M.bind (M.opt (D.bls (bs.map D.bl))) _ = _
  rw [D.bls_map]
  rfl
theorem sumF_map (ns : List Int) : sumF [.lst (ns.map D.int)] = M.ret (.int ns.sum) := by
  show M.bind (M.opt (D.ints (ns.map D.int))) _ = _
  rw [D.ints_map]
  rfl
theorem maxF_map (ns : List Int) (h : ns ≠ []) : maxF [.lst (ns.map D.int)] = M.ret (.int (maxI ns)) := by
  show M.bind (M.opt (D.ints (ns.map D.int))) _ = _
  rw [D.ints_map]
  cases ns with
  | nil => exact absurd rfl h
  | cons n ns => rfl
theorem minF_map (ns : List Int) (h : ns ≠ []) : minF [.lst (ns.map D.int)] = M.ret (.int (minI ns)) := by
  show M.bind (M.opt (D.ints (ns.map D.int))) _ = _
  rw [D.ints_map]
  cases ns with
  | nil => exact absurd rfl h
  | cons n ns => rfl
/-! ### running -/
theorem bind_ok {α β : Type} {m : M α} {f : α → M β} {s s1 : LS} {a : α} (h : m s = .ok a s1) : M.bind m f s = f a s1 := M.bind_ok h
theorem bind_okI {α β : Type} {m : M α} {f : α → M β} {s s1 : LS} {a : α} {o : Out β} (h : m s = .ok a s1) (k : f a s1 = o) : M.bind m f s = o := (M.bind_ok h).trans k
theorem nox_ok {α : Type} {m : M α} {s s1 : LS} {a : α} (h : m s = .ok a s1) : M.nox m s = .ok a s1 := by
  unfold M.nox
  rw [h]
theorem seq_ok {a b : SV} {en en1 : Env} {s s1 : LS} (h : a en s = .ok (.nx en1) s1) : sSeq a b en s = b en1 s1 := by
  show M.bind (a en) _ s = _
  rw [M.bind_ok h]
theorem seq_rt {a b : SV} {en : Env} {d : D} {s s1 : LS} (h : a en s = .ok (.rt d) s1) : sSeq a b en s = .ok (.rt d) s1 := by
  show M.bind (a en) _ s = _
  rw [M.bind_ok h]
  rfl
theorem run_rt {n N : Nat} {sv : SV} {ds : List D} {s s1 : LS} {d : D} (h : sv (ds.map Slot.sh ++ List.replicate (N - n) .un) s = .ok (.rt d) s1) : M.nox (runD n N sv ds) s = .ok d s1 := by
  refine nox_ok ?_
  unfold runD
  rw [M.bind_ok h]
  rfl
theorem run_ret {n N : Nat} {sv : SV} {ds : List D} {d : D} (h : sv (ds.map Slot.sh ++ List.replicate (N - n) .un) = M.ret (.rt d)) : M.nox (runD n N sv ds) = M.ret d := by
  unfold runD
  rw [h]
  rfl
/-- a test that is false -/
theorem if_no {t : TV} {a b : SV} {en : Env} {s s1 : LS} (h : t en s = .ok false s1) : sIf t a b en s = b en s1 := by
  show M.bind (t en) _ s = _
  rw [M.bind_ok h]
  rfl
theorem if_yes {t : TV} {a b : SV} {en : Env} {s s1 : LS} (h : t en s = .ok true s1) : sIf t a b en s = a en s1 := by
  show M.bind (t en) _ s = _
  rw [M.bind_ok h]
  rfl

/-! ### loops -/
/-- by an invariant over what is done -/
theorem forL_inv {g : GV} {b : SV} {all : List D} (P : List D → Env → LS → Prop) (turn : ∀ pre d post en s, all = pre ++ d :: post → P pre en s → ∃ en1, g d en = some en1 ∧ ∃ en2 s2, b en1 s = .ok (.nx en2) s2 ∧ P (pre ++ [d]) en2 s2) :
    ∀ (ds pre : List D) (en : Env) (s : LS), all = pre ++ ds → P pre en s → ∃ en' s', forL g b ds en s = .ok (.nx en') s' ∧ P all en' s'
  | [], pre, en, s, e, p => by
    rw [List.append_nil] at e
    subst e
    exact ⟨en, s, rfl, p⟩
  | d :: ds, pre, en, s, e, p => by
    obtain ⟨en1, h1, en2, s2, h2, p2⟩ := turn pre d ds en s e p
    obtain ⟨en', s', h3, p3⟩ := forL_inv P turn ds (pre ++ [d]) en2 s2 (by rw [e, List.append_assoc]; rfl) p2
    refine ⟨en', s', ?_, p3⟩
    unfold forL
    rw [h1]
    show M.bind (b en1) _ s = _
    rw [M.bind_ok h2]
    exact h3
theorem for_run {lv : AV} {g : GV} {b : SV} {en : Env} {s s1 : LS} {ds : List D} (P : List D → Env → LS → Prop) (h : lv en s = .ok ds s1) (h0 : P [] en s1) (turn : ∀ pre d post en s, ds = pre ++ d :: post → P pre en s → ∃ en1, g d en = some en1 ∧ ∃ en2 s2, b en1 s = .ok (.nx en2) s2 ∧ P (pre ++ [d]) en2 s2) :
    ∃ en' s', sFor lv g b en s = .ok (.nx en') s' ∧ P ds en' s' := by
  obtain ⟨en', s', h3, p3⟩ := forL_inv P turn ds [] en s1 rfl h0
  refine ⟨en', s', ?_, p3⟩
  show M.bind (lv en) _ s = _
  rw [M.bind_ok h]
  exact h3
/-- .. over the items of a list of one's own kind -/
theorem for_map {α : Type} {enc : α → D} {xs : List α} {lv : AV} {g : GV} {b : SV} {en : Env} {s s1 : LS} (P : List α → Env → LS → Prop) (h : lv en s = .ok (xs.map enc) s1) (h0 : P [] en s1)
    (turn : ∀ pre x post en s, xs = pre ++ x :: post → P pre en s → ∃ en1, g (enc x) en = some en1 ∧ ∃ en2 s2, b en1 s = .ok (.nx en2) s2 ∧ P (pre ++ [x]) en2 s2) : ∃ en' s', sFor lv g b en s = .ok (.nx en') s' ∧ P xs en' s' := by
  have go : ∀ (ys pre : List α) (en : Env) (s : LS), xs = pre ++ ys → P pre en s → ∃ en' s', forL g b (ys.map enc) en s = .ok (.nx en') s' ∧ P xs en' s' := by
    intro ys
    induction ys with
    | nil =>
      intro pre en s e p
      rw [List.append_nil] at e
      subst e
      exact ⟨en, s, rfl, p⟩
    | cons y ys ih =>
      intro pre en s e p
      obtain ⟨en1, h1, en2, s2, h2, p2⟩ := turn pre y ys en s e p
      obtain ⟨en', s', h3, p3⟩ := ih (pre ++ [y]) en2 s2 (by rw [e, List.append_assoc]; rfl) p2
      refine ⟨en', s', ?_, p3⟩
      rw [List.map_cons]
      unfold forL
      rw [h1]
      show M.bind (b en1) _ s = _
      rw [M.bind_ok h2]
      exact h3
  obtain ⟨en', s', h3, p3⟩ := go xs [] en s1 rfl h0
  refine ⟨en', s', ?_, p3⟩
  show M.bind (lv en) _ s = _
  rw [M.bind_ok h]
  exact h3
/-- a comprehension over pure items -/
theorem lcL_map {α : Type} {enc : α → D} {g : GV} {t : TV} {e : EV} {en : Env} {p : α → Bool} {f : α → D} : ∀ {xs : List α}, (∀ x ∈ xs, ∃ en1, g (enc x) en = some en1 ∧ t en1 = M.ret (p x) ∧ (p x = true → e en1 = M.ret (f x))) → lcL g t e en (xs.map enc) = M.ret ((xs.filter p).map f)
  | [], _ => rfl
  | x :: xs, h => by
    obtain ⟨en1, h1, h2, h3⟩ := h x List.mem_cons_self
    have ih := lcL_map (xs := xs) fun y hy => h y (List.mem_cons_of_mem _ hy)
    rw [List.map_cons]
    unfold lcL
    rw [h1]
    show M.bind (M.nox (t en1)) _ = _
    rw [h2, M.nox_ret, M.bind_ret]
    cases hp : p x with
    | true =>
      rw [if_pos rfl, h3 hp, M.nox_ret, M.bind_ret, ih, M.bind_ret, List.filter_cons_of_pos hp]
      rfl
    | false =>
      rw [if_neg Bool.false_ne_true, ih, List.filter_cons_of_neg (by rw [hp]; exact Bool.false_ne_true)]
theorem lcL_all {α : Type} {enc : α → D} {g : GV} {t : TV} {e : EV} {en : Env} {f : α → D} {xs : List α} (h : ∀ x ∈ xs, ∃ en1, g (enc x) en = some en1 ∧ t en1 = M.ret true ∧ e en1 = M.ret (f x)) : lcL g t e en (xs.map enc) = M.ret (xs.map f) := by
  have q := lcL_map (enc := enc) (g := g) (t := t) (e := e) (en := en) (p := fun _ => true) (f := f) (xs := xs) fun x hx => by
    obtain ⟨en1, h1, h2, h3⟩ := h x hx
    exact ⟨en1, h1, h2, fun _ => h3⟩
  rw [List.filter_eq_self.mpr fun _ _ => rfl] at q
  exact q
/-- .. that draws: by an invariant -/
theorem lcL_inv {α β : Type} {enc : α → D} {out : β → D} {g : GV} {t : TV} {e : EV} {en : Env} (R : LS → Prop) (Ok : β → Prop) : ∀ {xs : List α} {s : LS}, R s → (∀ x ∈ xs, ∀ s, R s → ∃ en1, g (enc x) en = some en1 ∧ t en1 = M.ret true ∧ ∃ y s', e en1 s = .ok (out y) s' ∧ R s' ∧ Ok y) →
    ∃ (ys : List β) (s' : LS), lcL g t e en (xs.map enc) s = .ok (ys.map out) s' ∧ R s' ∧ ys.length = xs.length ∧ ∀ y ∈ ys, Ok y
  | [], s, r, _ => ⟨[], s, rfl, r, rfl, fun _ h => nomatch h⟩
  | x :: xs, s, r, h => by
    obtain ⟨en1, h1, h2, y, s1, h3, r1, ok⟩ := h x List.mem_cons_self s r
    obtain ⟨ys, s2, h4, r2, hl, hy⟩ := lcL_inv R Ok (xs := xs) r1 fun z hz => h z (List.mem_cons_of_mem _ hz)
    refine ⟨y :: ys, s2, ?_, r2, by rw [List.length_cons, List.length_cons, hl], fun z hz => ?_⟩
    · rw [List.map_cons]
      unfold lcL
      rw [h1]
      show M.bind (M.nox (t en1)) _ s = _
      rw [h2, M.nox_ret, M.bind_ret, if_pos rfl, M.bind_ok (nox_ok h3), M.bind_ok h4]
      rfl
    · rcases List.mem_cons.mp hz with q | q
      · rw [q]
        exact ok
      · exact hy z q
theorem lc_ok {lv : AV} {vs : List Nat} {g : GV} {t : TV} {e : EV} {en : Env} {s s1 s2 : LS} {ds ys : List D} (h1 : lv en s = .ok ds s1) (ho : (vs.any fun i => (slot en i).own) = false) (h2 : lcL g t e (wipeE en vs) ds s1 = .ok ys s2) (hz : ys.length ≤ 16777216) : eLc lv vs g t e en s = .ok (.lst ys) s2 := by
  unfold eLc
  rw [M.bind_ok h1]
  simp only [ho, Bool.false_eq_true, if_false]
  rw [M.bind_ok h2, if_pos (fits_small _ hz)]
  rfl
theorem lc_ret {lv : AV} {vs : List Nat} {g : GV} {t : TV} {e : EV} {en : Env} {ds ys : List D} (h1 : lv en = M.ret ds) (ho : (vs.any fun i => (slot en i).own) = false) (h2 : lcL g t e (wipeE en vs) ds = M.ret ys) (hz : ys.length ≤ 16777216) : eLc lv vs g t e en = M.ret (.lst ys) := by
  funext s
  have e1 : lv en s = .ok ds s := by rw [h1, M.ret_ap]
  have e2 : lcL g t e (wipeE en vs) ds s = .ok ys s := by rw [h2, M.ret_ap]
  have e3 := lc_ok e1 ho e2 hz
  rw [e3]
  rfl
/-- the numbers of a range -/
theorem rngD_nat (n : Nat) (h : n < 2 ^ 62) : rngD [.int (n : Int)] = M.ret ((List.range n).map fun (k : Nat) => .int (k : Int)) := by
  have h1 : -(2 ^ 62 : Int) ≤ (n : Int) := by omega
  have h2 : (n : Int) < 2 ^ 62 := by omega
  have h3 : (decide (-(2 ^ 62 : Int) ≤ (n : Int)) && decide ((n : Int) < 2 ^ 62)) = true := by
    rw [decide_eq_true h1, decide_eq_true h2]
    rfl
  unfold rngD
  dsimp only
  rw [if_pos h3]
  unfold rangeD
  rw [Int.toNat_natCast]
  simp only [Int.zero_add]

/-! ### numbers of bounded size -/
def Bd (n : Nat) (i : Int) : Prop := i.natAbs < 2 ^ n
theorem Bd.mono {n m : Nat} {i : Int} (h : Bd n i) (hn : n ≤ m) : Bd m i := Nat.lt_of_lt_of_le h (Nat.pow_le_pow_right (by decide) hn)
theorem Bd.big {n : Nat} {i : Int} (h : Bd n i) (hn : n ≤ 400000) : big i = true := by
  exact decide_eq_true (p := i.natAbs < 2 ^ 400000) (h.mono hn)
theorem Bd.mul {n m : Nat} {i j : Int} (h : Bd n i) (k : Bd m j) : Bd (n + m) (i * j) := by
  unfold Bd at *
  rw [Int.natAbs_mul, Nat.pow_add]
  exact Nat.mul_lt_mul'' h k
theorem Bd.add {n m : Nat} {i j : Int} (h : Bd n i) (k : Bd m j) : Bd (max n m + 1) (i + j) := by
  have h1 : i.natAbs < 2 ^ max n m := h.mono (Nat.le_max_left _ _)
  have h2 : j.natAbs < 2 ^ max n m := k.mono (Nat.le_max_right _ _)
  unfold Bd
  rw [Nat.pow_succ]
  have := Int.natAbs_add_le i j
  omega
theorem Bd.neg {n : Nat} {i : Int} (h : Bd n i) : Bd n (-i) := by
  unfold Bd at *
  rw [Int.natAbs_neg]
  exact h
theorem Bd.sub {n m : Nat} {i j : Int} (h : Bd n i) (k : Bd m j) : Bd (max n m + 1) (i - j) := by
  rw [Int.sub_eq_add_neg]
  exact h.add k.neg
theorem Bd.le {n : Nat} {i j : Int} (h : Bd n i) (k : j.natAbs ≤ i.natAbs) : Bd n j := Nat.lt_of_le_of_lt k h
theorem Bd.div {n : Nat} {i j : Int} (h : Bd n i) : Bd n (i / j) := h.le (Int.natAbs_ediv_le_natAbs i j)

/-! ### the law's draws -/
def StG (s : LS) : Prop := s.cells.length ≠ 0
theorem take_ok {most : Int} {s : LS} (h : StG s) (hm : Bd 8000 most) : ∃ r s', takeF [.stt, .int most] s = .ok (.int r) s' ∧ StG s' ∧ 0 ≤ r ∧ (1 ≤ most → r < most) := by
  show ∃ r s', takeM most s = .ok (.int r) s' ∧ _
  unfold takeM
  by_cases h1 : most < 2
  · rw [if_pos h1]
    exact ⟨0, s, rfl, h, Int.le_refl 0, fun _ => by omega⟩
  · rw [if_neg h1, if_neg (fun z => z.elim h fun q => q hm)]
    dsimp only
    split
    · refine ⟨_, _, rfl, ?_, Int.emod_nonneg _ (by omega), fun _ => Int.emod_lt_of_pos _ (by omega)⟩
      show (List.set _ _ _).length ≠ 0
      rw [List.length_set]
      exact h
    · exact ⟨_, _, rfl, h, Int.emod_nonneg _ (by omega), fun _ => Int.emod_lt_of_pos _ (by omega)⟩
end DL

set_option Elab.async false
set_option linter.all false
set_option maxRecDepth 100000
set_option maxHeartbeats 4000000
namespace K10
open PySem PySem.Spec PyProof.Rows L2 DL
def topS (i : Nat) : Stmt := PySem.Challenge.pw_arrowhouse_k10_whole_parts_of_numbers.main.body.getD i (.Pass ⟨0, 0, 0, 0⟩)
abbrev sF_divisor : Stmt := topS 1
abbrev N_divisor : List Str := ["one", "other"]
theorem sc_divisor : FnScope N_divisor ["one", "other"] (defScope sF_divisor) := ⟨rfl, rfl, rfl, by decide +kernel, rfl, by decide +kernel, by decide +kernel⟩
abbrev sF_is_less : Stmt := topS 8
abbrev N_is_less : List Str := ["one", "other"]
theorem sc_is_less : FnScope N_is_less ["one", "other"] (defScope sF_is_less) := ⟨rfl, rfl, rfl, by decide +kernel, rfl, by decide +kernel, by decide +kernel⟩
abbrev sF_whole_below : Stmt := topS 11
abbrev N_whole_below : List Str := ["one"]
theorem sc_whole_below : FnScope N_whole_below ["one"] (defScope sF_whole_below) := ⟨rfl, rfl, rfl, by decide +kernel, rfl, by decide +kernel, by decide +kernel⟩
abbrev sF_whole_above : Stmt := topS 12
abbrev N_whole_above : List Str := ["one"]
theorem sc_whole_above : FnScope N_whole_above ["one"] (defScope sF_whole_above) := ⟨rfl, rfl, rfl, by decide +kernel, rfl, by decide +kernel, by decide +kernel⟩
abbrev sF_is_whole_part : Stmt := topS 13
abbrev N_is_whole_part : List Str := ["one"]
theorem sc_is_whole_part : FnScope N_is_whole_part ["one"] (defScope sF_is_whole_part) := ⟨rfl, rfl, rfl, by decide +kernel, rfl, by decide +kernel, by decide +kernel⟩
abbrev sF__law_state : Stmt := topS 18
abbrev N__law_state : List Str := ["script", "cells", "cell"]
theorem sc__law_state : FnScope N__law_state ["script"] (defScope sF__law_state) := ⟨rfl, rfl, rfl, by decide +kernel, rfl, by decide +kernel, by decide +kernel⟩
abbrev sF__law_take : Stmt := topS 19
abbrev N__law_take : List Str := ["state", "most", "cells", "at", "cell", "mixed"]
theorem sc__law_take : FnScope N__law_take ["state", "most"] (defScope sF__law_take) := ⟨rfl, rfl, rfl, by decide +kernel, rfl, by decide +kernel, by decide +kernel⟩
abbrev sF__law_fr : Stmt := topS 21
abbrev N__law_fr : List Str := ["above", "below", "one", "other", "turn"]
theorem sc__law_fr : FnScope N__law_fr ["above", "below"] (defScope sF__law_fr) := ⟨rfl, rfl, rfl, by decide +kernel, rfl, by decide +kernel, by decide +kernel⟩
abbrev sF__law_sign : Stmt := topS 27
abbrev N__law_sign : List Str := ["one", "other", "gap"]
theorem sc__law_sign : FnScope N__law_sign ["one", "other"] (defScope sF__law_sign) := ⟨rfl, rfl, rfl, by decide +kernel, rfl, by decide +kernel, by decide +kernel⟩
abbrev sF__law_gcd : Stmt := topS 29
abbrev N__law_gcd : List Str := ["one", "other", "turn"]
theorem sc__law_gcd : FnScope N__law_gcd ["one", "other"] (defScope sF__law_gcd) := ⟨rfl, rfl, rfl, by decide +kernel, rfl, by decide +kernel, by decide +kernel⟩
abbrev sF_part : Stmt := topS 2
abbrev N_part : List Str := ["above", "below", "common"]
theorem sc_part : FnScope N_part ["above", "below"] (defScope sF_part) := ⟨rfl, rfl, rfl, by decide +kernel, rfl, by decide +kernel, by decide +kernel⟩
abbrev sF_is_part : Stmt := topS 3
abbrev N_is_part : List Str := ["value", "number"]
theorem sc_is_part : FnScope N_is_part ["value"] (defScope sF_is_part) := ⟨rfl, rfl, rfl, by decide +kernel, rfl, by decide +kernel, by decide +kernel⟩
abbrev sF_least_of : Stmt := topS 10
abbrev N_least_of : List Str := ["row", "best", "one"]
theorem sc_least_of : FnScope N_least_of ["row"] (defScope sF_least_of) := ⟨rfl, rfl, rfl, by decide +kernel, rfl, by decide +kernel, by decide +kernel⟩
abbrev sF_scaled : Stmt := topS 15
abbrev N_scaled : List Str := ["row", "common", "one", "found", "shared", "number"]
theorem sc_scaled : FnScope N_scaled ["row"] (defScope sF_scaled) := ⟨rfl, rfl, rfl, by decide +kernel, rfl, by decide +kernel, by decide +kernel⟩
abbrev sF__law_pick : Stmt := topS 20
abbrev N__law_pick : List Str := ["state", "row"]
theorem sc__law_pick : FnScope N__law_pick ["state", "row"] (defScope sF__law_pick) := ⟨rfl, rfl, rfl, by decide +kernel, rfl, by decide +kernel, by decide +kernel⟩
abbrev sF__law_add : Stmt := topS 24
abbrev N__law_add : List Str := ["one", "other"]
theorem sc__law_add : FnScope N__law_add ["one", "other"] (defScope sF__law_add) := ⟨rfl, rfl, rfl, by decide +kernel, rfl, by decide +kernel, by decide +kernel⟩
abbrev sF__law_mul : Stmt := topS 25
abbrev N__law_mul : List Str := ["one", "other"]
theorem sc__law_mul : FnScope N__law_mul ["one", "other"] (defScope sF__law_mul) := ⟨rfl, rfl, rfl, by decide +kernel, rfl, by decide +kernel, by decide +kernel⟩
abbrev sF__law_gcd_of : Stmt := topS 30
abbrev N__law_gcd_of : List Str := ["row", "found", "n"]
theorem sc__law_gcd_of : FnScope N__law_gcd_of ["row"] (defScope sF__law_gcd_of) := ⟨rfl, rfl, rfl, by decide +kernel, rfl, by decide +kernel, by decide +kernel⟩
abbrev sF__law_is : Stmt := topS 31
abbrev N__law_is : List Str := ["value", "n"]
theorem sc__law_is : FnScope N__law_is ["value"] (defScope sF__law_is) := ⟨rfl, rfl, rfl, by decide +kernel, rfl, by decide +kernel, by decide +kernel⟩
abbrev sF_plus : Stmt := topS 4
abbrev N_plus : List Str := ["one", "other"]
theorem sc_plus : FnScope N_plus ["one", "other"] (defScope sF_plus) := ⟨rfl, rfl, rfl, by decide +kernel, rfl, by decide +kernel, by decide +kernel⟩
abbrev sF_minus : Stmt := topS 5
abbrev N_minus : List Str := ["one", "other"]
theorem sc_minus : FnScope N_minus ["one", "other"] (defScope sF_minus) := ⟨rfl, rfl, rfl, by decide +kernel, rfl, by decide +kernel, by decide +kernel⟩
abbrev sF_times : Stmt := topS 6
abbrev N_times : List Str := ["one", "other"]
theorem sc_times : FnScope N_times ["one", "other"] (defScope sF_times) := ⟨rfl, rfl, rfl, by decide +kernel, rfl, by decide +kernel, by decide +kernel⟩
abbrev sF_over : Stmt := topS 7
abbrev N_over : List Str := ["one", "other"]
theorem sc_over : FnScope N_over ["one", "other"] (defScope sF_over) := ⟨rfl, rfl, rfl, by decide +kernel, rfl, by decide +kernel, by decide +kernel⟩
abbrev sF_are_parts : Stmt := topS 14
abbrev N_are_parts : List Str := ["value", "many", "one"]
theorem sc_are_parts : FnScope N_are_parts ["value", "many"] (defScope sF_are_parts) := ⟨rfl, rfl, rfl, by decide +kernel, rfl, by decide +kernel, by decide +kernel⟩
abbrev sF__law_sub : Stmt := topS 26
abbrev N__law_sub : List Str := ["one", "other"]
theorem sc__law_sub : FnScope N__law_sub ["one", "other"] (defScope sF__law_sub) := ⟨rfl, rfl, rfl, by decide +kernel, rfl, by decide +kernel, by decide +kernel⟩
abbrev sF__law_part : Stmt := topS 28
abbrev N__law_part : List Str := ["state", "top"]
theorem sc__law_part : FnScope N__law_part ["state"] (defScope sF__law_part) := ⟨rfl, rfl, rfl, by decide +kernel, rfl, by decide +kernel, by decide +kernel⟩
abbrev sF_total : Stmt := topS 9
abbrev N_total : List Str := ["row", "found", "one"]
theorem sc_total : FnScope N_total ["row"] (defScope sF_total) := ⟨rfl, rfl, rfl, by decide +kernel, rfl, by decide +kernel, by decide +kernel⟩
abbrev sF_dot : Stmt := topS 16
abbrev N_dot : List Str := ["row", "point", "k"]
theorem sc_dot : FnScope N_dot ["row", "point"] (defScope sF_dot) := ⟨rfl, rfl, rfl, by decide +kernel, rfl, by decide +kernel, by decide +kernel⟩
abbrev sF_law : Stmt := topS 32
abbrev N_law : List Str := ["script", "state", "one", "other", "third", "a", "b", "k", "row", "whole", "least", "n", "low", "high", "told", "j", "numbers", "sums", "value", "rows", "many"]
theorem sc_law : FnScope N_law ["script"] (defScope sF_law) := ⟨rfl, rfl, rfl, by decide +kernel, rfl, by decide +kernel, by decide +kernel⟩
structure Tx (K : PySem.W.Frag) (mg : Str → Option Value) where
  a_divisor : Addr
  d_divisor : FuncData
  f_divisor : Fun K "divisor" "divisor" sF_divisor a_divisor d_divisor
  b_divisor : L2.Binds K d_divisor ["one", "other"] []
  g_divisor : mg "divisor" = some (.ref a_divisor)
  a_is_less : Addr
  d_is_less : FuncData
  f_is_less : Fun K "is_less" "is_less" sF_is_less a_is_less d_is_less
  b_is_less : L2.Binds K d_is_less ["one", "other"] []
  g_is_less : mg "is_less" = some (.ref a_is_less)
  a_whole_below : Addr
  d_whole_below : FuncData
  f_whole_below : Fun K "whole_below" "whole_below" sF_whole_below a_whole_below d_whole_below
  b_whole_below : L2.Binds K d_whole_below ["one"] []
  g_whole_below : mg "whole_below" = some (.ref a_whole_below)
  a_whole_above : Addr
  d_whole_above : FuncData
  f_whole_above : Fun K "whole_above" "whole_above" sF_whole_above a_whole_above d_whole_above
  b_whole_above : L2.Binds K d_whole_above ["one"] []
  g_whole_above : mg "whole_above" = some (.ref a_whole_above)
  a_is_whole_part : Addr
  d_is_whole_part : FuncData
  f_is_whole_part : Fun K "is_whole_part" "is_whole_part" sF_is_whole_part a_is_whole_part d_is_whole_part
  b_is_whole_part : L2.Binds K d_is_whole_part ["one"] []
  g_is_whole_part : mg "is_whole_part" = some (.ref a_is_whole_part)
  a__law_state : Addr
  d__law_state : FuncData
  f__law_state : Fun K "_law_state" "_law_state" sF__law_state a__law_state d__law_state
  b__law_state : L2.Binds K d__law_state ["script"] []
  g__law_state : mg "_law_state" = some (.ref a__law_state)
  a__law_take : Addr
  d__law_take : FuncData
  f__law_take : Fun K "_law_take" "_law_take" sF__law_take a__law_take d__law_take
  b__law_take : L2.Binds K d__law_take ["state", "most"] []
  g__law_take : mg "_law_take" = some (.ref a__law_take)
  a__law_fr : Addr
  d__law_fr : FuncData
  f__law_fr : Fun K "_law_fr" "_law_fr" sF__law_fr a__law_fr d__law_fr
  b__law_fr : L2.Binds K d__law_fr ["above", "below"] []
  g__law_fr : mg "_law_fr" = some (.ref a__law_fr)
  a__law_sign : Addr
  d__law_sign : FuncData
  f__law_sign : Fun K "_law_sign" "_law_sign" sF__law_sign a__law_sign d__law_sign
  b__law_sign : L2.Binds K d__law_sign ["one", "other"] []
  g__law_sign : mg "_law_sign" = some (.ref a__law_sign)
  a__law_gcd : Addr
  d__law_gcd : FuncData
  f__law_gcd : Fun K "_law_gcd" "_law_gcd" sF__law_gcd a__law_gcd d__law_gcd
  b__law_gcd : L2.Binds K d__law_gcd ["one", "other"] []
  g__law_gcd : mg "_law_gcd" = some (.ref a__law_gcd)
  a_part : Addr
  d_part : FuncData
  f_part : Fun K "part" "part" sF_part a_part d_part
  b_part : L2.Binds K d_part ["above", "below"] []
  g_part : mg "part" = some (.ref a_part)
  a_is_part : Addr
  d_is_part : FuncData
  f_is_part : Fun K "is_part" "is_part" sF_is_part a_is_part d_is_part
  b_is_part : L2.Binds K d_is_part ["value"] []
  g_is_part : mg "is_part" = some (.ref a_is_part)
  a_least_of : Addr
  d_least_of : FuncData
  f_least_of : Fun K "least_of" "least_of" sF_least_of a_least_of d_least_of
  b_least_of : L2.Binds K d_least_of ["row"] []
  g_least_of : mg "least_of" = some (.ref a_least_of)
  a_scaled : Addr
  d_scaled : FuncData
  f_scaled : Fun K "scaled" "scaled" sF_scaled a_scaled d_scaled
  b_scaled : L2.Binds K d_scaled ["row"] []
  g_scaled : mg "scaled" = some (.ref a_scaled)
  a__law_pick : Addr
  d__law_pick : FuncData
  f__law_pick : Fun K "_law_pick" "_law_pick" sF__law_pick a__law_pick d__law_pick
  b__law_pick : L2.Binds K d__law_pick ["state", "row"] []
  g__law_pick : mg "_law_pick" = some (.ref a__law_pick)
  a__law_add : Addr
  d__law_add : FuncData
  f__law_add : Fun K "_law_add" "_law_add" sF__law_add a__law_add d__law_add
  b__law_add : L2.Binds K d__law_add ["one", "other"] []
  g__law_add : mg "_law_add" = some (.ref a__law_add)
  a__law_mul : Addr
  d__law_mul : FuncData
  f__law_mul : Fun K "_law_mul" "_law_mul" sF__law_mul a__law_mul d__law_mul
  b__law_mul : L2.Binds K d__law_mul ["one", "other"] []
  g__law_mul : mg "_law_mul" = some (.ref a__law_mul)
  a__law_gcd_of : Addr
  d__law_gcd_of : FuncData
  f__law_gcd_of : Fun K "_law_gcd_of" "_law_gcd_of" sF__law_gcd_of a__law_gcd_of d__law_gcd_of
  b__law_gcd_of : L2.Binds K d__law_gcd_of ["row"] []
  g__law_gcd_of : mg "_law_gcd_of" = some (.ref a__law_gcd_of)
  a__law_is : Addr
  d__law_is : FuncData
  f__law_is : Fun K "_law_is" "_law_is" sF__law_is a__law_is d__law_is
  b__law_is : L2.Binds K d__law_is ["value"] []
  g__law_is : mg "_law_is" = some (.ref a__law_is)
  a_plus : Addr
  d_plus : FuncData
  f_plus : Fun K "plus" "plus" sF_plus a_plus d_plus
  b_plus : L2.Binds K d_plus ["one", "other"] []
  g_plus : mg "plus" = some (.ref a_plus)
  a_minus : Addr
  d_minus : FuncData
  f_minus : Fun K "minus" "minus" sF_minus a_minus d_minus
  b_minus : L2.Binds K d_minus ["one", "other"] []
  g_minus : mg "minus" = some (.ref a_minus)
  a_times : Addr
  d_times : FuncData
  f_times : Fun K "times" "times" sF_times a_times d_times
  b_times : L2.Binds K d_times ["one", "other"] []
  g_times : mg "times" = some (.ref a_times)
  a_over : Addr
  d_over : FuncData
  f_over : Fun K "over" "over" sF_over a_over d_over
  b_over : L2.Binds K d_over ["one", "other"] []
  g_over : mg "over" = some (.ref a_over)
  a_are_parts : Addr
  d_are_parts : FuncData
  f_are_parts : Fun K "are_parts" "are_parts" sF_are_parts a_are_parts d_are_parts
  b_are_parts : L2.Binds K d_are_parts ["value", "many"] []
  g_are_parts : mg "are_parts" = some (.ref a_are_parts)
  a__law_sub : Addr
  d__law_sub : FuncData
  f__law_sub : Fun K "_law_sub" "_law_sub" sF__law_sub a__law_sub d__law_sub
  b__law_sub : L2.Binds K d__law_sub ["one", "other"] []
  g__law_sub : mg "_law_sub" = some (.ref a__law_sub)
  a__law_part : Addr
  d__law_part : FuncData
  f__law_part : Fun K "_law_part" "_law_part" sF__law_part a__law_part d__law_part
  b__law_part : L2.Binds K d__law_part ["state"] []
  g__law_part : mg "_law_part" = some (.ref a__law_part)
  a_total : Addr
  d_total : FuncData
  f_total : Fun K "total" "total" sF_total a_total d_total
  b_total : L2.Binds K d_total ["row"] []
  g_total : mg "total" = some (.ref a_total)
  a_dot : Addr
  d_dot : FuncData
  f_dot : Fun K "dot" "dot" sF_dot a_dot d_dot
  b_dot : L2.Binds K d_dot ["row", "point"] []
  g_dot : mg "dot" = some (.ref a_dot)
  a_law : Addr
  d_law : FuncData
  f_law : Fun K "law" "law" sF_law a_law d_law
  b_law : L2.Binds K d_law ["script"] []
  g_law : mg "law" = some (.ref a_law)
  z_abs : mg "abs" = none
  z_all : mg "all" = none
  z_bool : mg "bool" = none
  z_int : mg "int" = none
  z_isinstance : mg "isinstance" = none
  z_len : mg "len" = none
  z_list : mg "list" = none
  z_max : mg "max" = none
  z_range : mg "range" = none
  z_tuple : mg "tuple" = none
abbrev m__law_take : List D → M D := takeF
def v_divisor : SV := (sSeq (sPar2 0 1 (aCons (eCall absF (aCons (eBor 0) aNil)) (aCons (eCall absF (aCons (eBor 1) aNil)) aNil)))
  (sSeq (sWhile (eT (eBin neD (eBor 1) (eC (.int 0)))) (sPar2 0 1 (aCons (eVar 1) (aCons (eBin modD (eBor 0) (eBor 1)) aNil))))
  (sRet (eVar 0))))
def m_divisor : List D → M D := fun ds => M.nox (runD 2 2 v_divisor ds)
def v_is_less : SV := (sRet (eBin ltD (eBin mulD (eBin ixD (eBor 0) (eC (.int 0))) (eBin ixD (eBor 1) (eC (.int 1)))) (eBin mulD (eBin ixD (eBor 1) (eC (.int 0))) (eBin ixD (eBor 0) (eC (.int 1))))))
def m_is_less : List D → M D := fun ds => M.nox (runD 2 2 v_is_less ds)
def v_whole_below : SV := (sRet (eBin fdivD (eBin ixD (eBor 0) (eC (.int 0))) (eBin ixD (eBor 0) (eC (.int 1)))))
def m_whole_below : List D → M D := fun ds => M.nox (runD 1 1 v_whole_below ds)
def v_whole_above : SV := (sRet (eBin subD (eC (.int 0)) (eBin fdivD (eBin subD (eC (.int 0)) (eBin ixD (eBor 0) (eC (.int 0)))) (eBin ixD (eBor 0) (eC (.int 1))))))
def m_whole_above : List D → M D := fun ds => M.nox (runD 1 1 v_whole_above ds)
def v_is_whole_part : SV := (sRet (eBin eqD (eBin ixD (eBor 0) (eC (.int 1))) (eC (.int 1))))
def m_is_whole_part : List D → M D := fun ds => M.nox (runD 1 1 v_is_whole_part ds)
def v__law_fr : SV := (sSeq (sIf (eT (eBin ltD (eBor 1) (eC (.int 0)))) (sPar2 0 1 (aCons (eBin subD (eC (.int 0)) (eBor 0)) (aCons (eBin subD (eC (.int 0)) (eBor 1)) aNil))) sNil)
  (sSeq (sPar2 2 3 (aCons (eCall absF (aCons (eBor 0) aNil)) (aCons (eVar 1) aNil)))
  (sSeq (sFor (eRng (aCons (eC (.int 4000)) aNil)) (tgN 4) (sSeq (sIf (eT (eBin eqD (eBor 3) (eC (.int 0)))) sBreak sNil)
  (sPar2 2 3 (aCons (eVar 3) (aCons (eBin modD (eCall intF (aCons (eBor 2) aNil)) (eBor 3)) aNil)))))
  (sRet (eTup (aCons (eBin fdivD (eBor 0) (eBor 2)) (aCons (eBin fdivD (eBor 1) (eBor 2)) aNil)))))))
def m__law_fr : List D → M D := fun ds => M.nox (runD 2 5 v__law_fr ds)
def v__law_sign : SV := (sSeq (sAsg (eBin subD (eBin mulD (eBin ixD (eBor 0) (eC (.int 0))) (eBin ixD (eBor 1) (eC (.int 1)))) (eBin mulD (eBin ixD (eBor 1) (eC (.int 0))) (eBin ixD (eBor 0) (eC (.int 1))))) (tgN 2))
  (sRet (eIf (eT (eBin eqD (eBor 2) (eC (.int 0)))) (eC (.int 0)) (eIf (eT (eBin gtD (eBor 2) (eC (.int 0)))) (eC (.int 1)) (eUn negD (eC (.int 1)))))))
def m__law_sign : List D → M D := fun ds => M.nox (runD 2 3 v__law_sign ds)
def v__law_gcd : SV := (sSeq (sPar2 0 1 (aCons (eCall absF (aCons (eBor 0) aNil)) (aCons (eCall absF (aCons (eBor 1) aNil)) aNil)))
  (sSeq (sFor (eRng (aCons (eC (.int 400)) aNil)) (tgN 2) (sSeq (sIf (eT (eBin eqD (eBor 1) (eC (.int 0)))) sBreak sNil)
  (sPar2 0 1 (aCons (eVar 1) (aCons (eBin modD (eCall intF (aCons (eBor 0) aNil)) (eBor 1)) aNil)))))
  (sRet (eVar 0))))
def m__law_gcd : List D → M D := fun ds => M.nox (runD 2 3 v__law_gcd ds)
def v_part : SV := (sSeq (sIf (eT (eBin ltD (eBor 1) (eC (.int 0)))) (sPar2 0 1 (aCons (eBin subD (eC (.int 0)) (eBor 0)) (aCons (eBin subD (eC (.int 0)) (eBor 1)) aNil))) sNil)
  (sSeq (sAsg (eCall m_divisor (aCons (eVar 0) (aCons (eVar 1) aNil))) (tgN 2))
  (sRet (eTup (aCons (eBin fdivD (eBor 0) (eBor 2)) (aCons (eBin fdivD (eBor 1) (eBor 2)) aNil))))))
def m_part : List D → M D := fun ds => M.nox (runD 2 3 v_part ds)
def v_is_part : SV := (sSeq (sIf (tvOr (tvNot (eT (eIsi "tuple" (eBor 0)))) (eT (eBin neD (eCall lenF (aCons (eBor 0) aNil)) (eC (.int 2))))) (sRet (eC (.bl false))) sNil)
  (sSeq (sIf (tvNot (eT (eCall allF (aCons (eLc (eSeq (eBor 0)) [1] (tgN 1) tvYes (eAnd (eIsi "int" (eBor 1)) (eNot (eIsi "bool" (eBor 1))))) aNil)))) (sRet (eC (.bl false))) sNil)
  (sRet (eAnd (eBin geD (eBin ixD (eBor 0) (eC (.int 1))) (eC (.int 1))) (eBin eqD (eCall m_divisor (aCons (eBin ixD (eBor 0) (eC (.int 0))) (aCons (eBin ixD (eBor 0) (eC (.int 1))) aNil))) (eC (.int 1)))))))
def m_is_part : List D → M D := fun ds => M.nox (runD 1 2 v_is_part ds)
def v_least_of : SV := (sSeq (sAsg (eC .non) (tgN 1))
  (sSeq (sFor (eSeq (eVar 0)) (tgN 2) (sIf (tvOr (eT (eBin isNonD (eBor 1) (eC .non))) (eT (eCall m_is_less (aCons (eVar 2) (aCons (eVar 1) aNil))))) (sAsg (eVar 2) (tgN 1)) sNil))
  (sRet (eVar 1))))
def m_least_of : List D → M D := fun ds => M.nox (runD 1 3 v_least_of ds)
def v_scaled : SV := (sSeq (sAsg (eC (.int 1)) (tgN 1))
  (sSeq (sFor (eSeq (eVar 0)) (tgN 2) (sAsg (eBin fdivD (eBin mulD (eBor 1) (eBin ixD (eBor 2) (eC (.int 1)))) (eCall m_divisor (aCons (eVar 1) (aCons (eBin ixD (eBor 2) (eC (.int 1))) aNil)))) (tgN 1)))
  (sSeq (sAsg (eLc (eSeq (eBor 0)) [2] (tgN 2) tvYes (eBin mulD (eBin ixD (eBor 2) (eC (.int 0))) (eBin fdivD (eBor 1) (eBin ixD (eBor 2) (eC (.int 1)))))) (tgN 3))
  (sSeq (sAsg (eC (.int 0)) (tgN 4))
  (sSeq (sFor (eSeq (eVar 3)) (tgN 5) (sAsg (eCall m_divisor (aCons (eVar 4) (aCons (eVar 5) aNil))) (tgN 4)))
  (sRet (eIf (eT (eBin eqD (eBor 4) (eC (.int 0)))) (eCall tupleF (aCons (eBor 3) aNil)) (eCall tupleF (aCons (eLc (eSeq (eBor 3)) [5] (tgN 5) tvYes (eBin fdivD (eBor 5) (eBor 4))) aNil)))))))))
def m_scaled : List D → M D := fun ds => M.nox (runD 1 6 v_scaled ds)
def v__law_pick : SV := (sRet (eBin ixD (eBor 1) (eCall m__law_take (aCons (eVar 0) (aCons (eCall lenF (aCons (eBor 1) aNil)) aNil)))))
def m__law_pick : List D → M D := fun ds => M.nox (runD 2 2 v__law_pick ds)
def v__law_add : SV := (sRet (eCall m__law_fr (aCons (eBin addD (eBin mulD (eBin ixD (eBor 0) (eC (.int 0))) (eBin ixD (eBor 1) (eC (.int 1)))) (eBin mulD (eBin ixD (eBor 1) (eC (.int 0))) (eBin ixD (eBor 0) (eC (.int 1))))) (aCons (eBin mulD (eBin ixD (eBor 0) (eC (.int 1))) (eBin ixD (eBor 1) (eC (.int 1)))) aNil))))
def m__law_add : List D → M D := fun ds => M.nox (runD 2 2 v__law_add ds)
def v__law_mul : SV := (sRet (eCall m__law_fr (aCons (eBin mulD (eBin ixD (eBor 0) (eC (.int 0))) (eBin ixD (eBor 1) (eC (.int 0)))) (aCons (eBin mulD (eBin ixD (eBor 0) (eC (.int 1))) (eBin ixD (eBor 1) (eC (.int 1)))) aNil))))
def m__law_mul : List D → M D := fun ds => M.nox (runD 2 2 v__law_mul ds)
def v__law_gcd_of : SV := (sSeq (sAsg (eC (.int 0)) (tgN 1))
  (sSeq (sFor (eSeq (eVar 0)) (tgN 2) (sAsg (eCall m__law_gcd (aCons (eVar 1) (aCons (eVar 2) aNil))) (tgN 1)))
  (sRet (eVar 1))))
def m__law_gcd_of : List D → M D := fun ds => M.nox (runD 1 3 v__law_gcd_of ds)
def v__law_is : SV := (sSeq (sIf (tvOr (tvNot (eT (eIsi "tuple" (eBor 0)))) (eT (eBin neD (eCall lenF (aCons (eBor 0) aNil)) (eC (.int 2))))) (sRet (eC (.bl false))) sNil)
  (sSeq (sIf (eT (eBin gtD (eCall lenF (aCons (eLc (eSeq (eBor 0)) [1] (tgN 1) (tvOr (tvNot (eT (eIsi "int" (eBor 1)))) (eT (eIsi "bool" (eBor 1)))) (eVar 1)) aNil)) (eC (.int 0)))) (sRet (eC (.bl false))) sNil)
  (sRet (eAnd (eBin gtD (eBin ixD (eBor 0) (eC (.int 1))) (eC (.int 0))) (eBin eqD (eCall m__law_gcd (aCons (eBin ixD (eBor 0) (eC (.int 0))) (aCons (eBin ixD (eBor 0) (eC (.int 1))) aNil))) (eC (.int 1)))))))
def m__law_is : List D → M D := fun ds => M.nox (runD 1 2 v__law_is ds)
def v_plus : SV := (sRet (eCall m_part (aCons (eBin addD (eBin mulD (eBin ixD (eBor 0) (eC (.int 0))) (eBin ixD (eBor 1) (eC (.int 1)))) (eBin mulD (eBin ixD (eBor 1) (eC (.int 0))) (eBin ixD (eBor 0) (eC (.int 1))))) (aCons (eBin mulD (eBin ixD (eBor 0) (eC (.int 1))) (eBin ixD (eBor 1) (eC (.int 1)))) aNil))))
def m_plus : List D → M D := fun ds => M.nox (runD 2 2 v_plus ds)
def v_minus : SV := (sRet (eCall m_part (aCons (eBin subD (eBin mulD (eBin ixD (eBor 0) (eC (.int 0))) (eBin ixD (eBor 1) (eC (.int 1)))) (eBin mulD (eBin ixD (eBor 1) (eC (.int 0))) (eBin ixD (eBor 0) (eC (.int 1))))) (aCons (eBin mulD (eBin ixD (eBor 0) (eC (.int 1))) (eBin ixD (eBor 1) (eC (.int 1)))) aNil))))
def m_minus : List D → M D := fun ds => M.nox (runD 2 2 v_minus ds)
def v_times : SV := (sRet (eCall m_part (aCons (eBin mulD (eBin ixD (eBor 0) (eC (.int 0))) (eBin ixD (eBor 1) (eC (.int 0)))) (aCons (eBin mulD (eBin ixD (eBor 0) (eC (.int 1))) (eBin ixD (eBor 1) (eC (.int 1)))) aNil))))
def m_times : List D → M D := fun ds => M.nox (runD 2 2 v_times ds)
def v_over : SV := (sRet (eCall m_part (aCons (eBin mulD (eBin ixD (eBor 0) (eC (.int 0))) (eBin ixD (eBor 1) (eC (.int 1)))) (aCons (eBin mulD (eBin ixD (eBor 0) (eC (.int 1))) (eBin ixD (eBor 1) (eC (.int 0)))) aNil))))
def m_over : List D → M D := fun ds => M.nox (runD 2 2 v_over ds)
def v_are_parts : SV := (sRet (eAnd (eIsi "tuple" (eBor 0)) (eAnd (eBin eqD (eCall lenF (aCons (eBor 0) aNil)) (eBor 1)) (eCall allF (aCons (eLc (eSeq (eBor 0)) [2] (tgN 2) tvYes (eCall m_is_part (aCons (eVar 2) aNil))) aNil)))))
def m_are_parts : List D → M D := fun ds => M.nox (runD 2 3 v_are_parts ds)
def v__law_sub : SV := (sRet (eCall m__law_add (aCons (eVar 0) (aCons (eTup (aCons (eBin subD (eC (.int 0)) (eBin ixD (eBor 1) (eC (.int 0)))) (aCons (eBin ixD (eBor 1) (eC (.int 1))) aNil))) aNil))))
def m__law_sub : List D → M D := fun ds => M.nox (runD 2 2 v__law_sub ds)
def v__law_part : SV := (sSeq (sAsg (eCall m__law_pick (aCons (eVar 0) (aCons (eLst (aCons (eC (.int 3)) (aCons (eC (.int 30)) (aCons (eC (.int 10000)) (aCons (eC (.int 1000000000000)) aNil))))) aNil))) (tgN 1))
  (sRet (eCall m__law_fr (aCons (eBin subD (eCall m__law_take (aCons (eVar 0) (aCons (eBin addD (eBin mulD (eC (.int 2)) (eBor 1)) (eC (.int 1))) aNil))) (eBor 1)) (aCons (eBin addD (eC (.int 1)) (eCall m__law_take (aCons (eVar 0) (aCons (eCall m__law_pick (aCons (eVar 0) (aCons (eLst (aCons (eC (.int 1)) (aCons (eC (.int 6)) (aCons (eC (.int 5000)) aNil)))) aNil))) aNil)))) aNil)))))
def m__law_part : List D → M D := fun ds => M.nox (runD 1 2 v__law_part ds)
def v_total : SV := (sSeq (sAsg (eTup (aCons (eC (.int 0)) (aCons (eC (.int 1)) aNil))) (tgN 1))
  (sSeq (sFor (eSeq (eVar 0)) (tgN 2) (sAsg (eCall m_plus (aCons (eVar 1) (aCons (eVar 2) aNil))) (tgN 1)))
  (sRet (eVar 1))))
def m_total : List D → M D := fun ds => M.nox (runD 1 3 v_total ds)
def v_dot : SV := (sRet (eCall m_total (aCons (eLc (eRng (aCons (eCall lenF (aCons (eBor 0) aNil)) aNil)) [2] (tgN 2) tvYes (eCall m_times (aCons (eBin ixD (eBor 1) (eBor 2)) (aCons (eTup (aCons (eBin ixD (eBor 0) (eBor 2)) (aCons (eC (.int 1)) aNil))) aNil)))) aNil)))
def m_dot : List D → M D := fun ds => M.nox (runD 2 3 v_dot ds)
def L_0 : SV := (sPar3 2 3 4 (aCons (eCall m__law_part (aCons (eVar 1) aNil)) (aCons (eCall m__law_part (aCons (eVar 1) aNil)) (aCons (eCall m__law_part (aCons (eVar 1) aNil)) aNil))))
def L_1 : SV := (sPar2 5 6 (aCons (eBin subD (eCall m__law_take (aCons (eVar 1) (aCons (eC (.int 2001)) aNil))) (eC (.int 1000))) (aCons (eBin subD (eCall m__law_take (aCons (eVar 1) (aCons (eC (.int 2001)) aNil))) (eC (.int 1000))) aNil)))
def L_2 : SV := (sIf (tvOr (eT (eBin neD (eCall m_divisor (aCons (eVar 5) (aCons (eVar 6) aNil))) (eCall m__law_gcd (aCons (eVar 5) (aCons (eVar 6) aNil))))) (tvOr (eT (eBin neD (eCall m_divisor (aCons (eC (.int 0)) (aCons (eC (.int 0)) aNil))) (eC (.int 0)))) (tvOr (tvAnd (eT (eBin neD (eBor 6) (eC (.int 0)))) (eT (eBin neD (eCall m_part (aCons (eVar 5) (aCons (eVar 6) aNil))) (eCall m__law_fr (aCons (eVar 5) (aCons (eVar 6) aNil)))))) (eT (eBin neD (eCall m_part (aCons (eC (.int 0)) (aCons (eC (.int 7)) aNil))) (eTup (aCons (eC (.int 0)) (aCons (eC (.int 1)) aNil)))))))) (sRet (eC (.bl false))) sNil)
def L_3 : SV := (sIf (tvOr (eT (eBin neD (eCall m_plus (aCons (eVar 2) (aCons (eVar 3) aNil))) (eCall m__law_add (aCons (eVar 2) (aCons (eVar 3) aNil))))) (tvOr (eT (eBin neD (eCall m_minus (aCons (eVar 2) (aCons (eVar 3) aNil))) (eCall m__law_sub (aCons (eVar 2) (aCons (eVar 3) aNil))))) (eT (eBin neD (eCall m_times (aCons (eVar 2) (aCons (eVar 3) aNil))) (eCall m__law_mul (aCons (eVar 2) (aCons (eVar 3) aNil))))))) (sRet (eC (.bl false))) sNil)
def L_4 : SV := (sIf (tvAnd (eT (eBin neD (eBin ixD (eBor 3) (eC (.int 0))) (eC (.int 0)))) (eT (eBin neD (eCall m_over (aCons (eVar 2) (aCons (eVar 3) aNil))) (eCall m__law_mul (aCons (eVar 2) (aCons (eCall m__law_fr (aCons (eBin ixD (eBor 3) (eC (.int 1))) (aCons (eBin ixD (eBor 3) (eC (.int 0))) aNil))) aNil)))))) (sRet (eC (.bl false))) sNil)
def L_5 : SV := (sIf (tvOr (eT (eBin neD (eCall m_is_less (aCons (eVar 2) (aCons (eVar 3) aNil))) (eBin ltD (eCall m__law_sign (aCons (eVar 2) (aCons (eVar 3) aNil))) (eC (.int 0))))) (tvOr (eT (eBin notBlD (eCall m_is_less (aCons (eVar 2) (aCons (eVar 2) aNil))) (eC (.bl false)))) (eT (eBin notBlD (eCall m_is_less (aCons (eVar 2) (aCons (eCall m__law_add (aCons (eVar 2) (aCons (eTup (aCons (eC (.int 1)) (aCons (eC (.int 1000000)) aNil))) aNil))) aNil))) (eC (.bl true)))))) (sRet (eC (.bl false))) sNil)
def L_6 : SV := (sAsg (eLc (eRng (aCons (eCall m__law_take (aCons (eVar 1) (aCons (eC (.int 6)) aNil))) aNil)) [7] (tgN 7) tvYes (eCall m__law_part (aCons (eVar 1) aNil))) (tgN 8))
def L_7 : SV := (sAsg (eTup (aCons (eTup (aCons (eC (.int 0)) (aCons (eC (.int 1)) aNil))) (aCons (eC .non) aNil))) (tgT 2 (tgsCons (tgN 9) (tgsCons (tgN 10) tgsNil))))
def L_8 : SV := (sFor (eSeq (eVar 8)) (tgN 11) (sSeq (sAsg (eCall m__law_add (aCons (eVar 9) (aCons (eVar 11) aNil))) (tgN 9))
  (sAsg (eIf (tvOr (eT (eBin isNonD (eBor 10) (eC .non))) (eT (eBin ltD (eCall m__law_sign (aCons (eVar 11) (aCons (eVar 10) aNil))) (eC (.int 0))))) (eVar 11) (eVar 10)) (tgN 10))))
def L_9 : SV := (sIf (tvOr (eT (eBin neD (eCall m_total (aCons (eLc (eSeq (eBor 8)) [11] (tgN 11) tvYes (eVar 11)) aNil)) (eBor 9))) (eT (eBin neD (eCall m_least_of (aCons (eLc (eSeq (eBor 8)) [11] (tgN 11) tvYes (eVar 11)) aNil)) (eBor 10)))) (sRet (eC (.bl false))) sNil)
def L_10 : SV := (sPar2 12 13 (aCons (eCall m_whole_below (aCons (eVar 2) aNil)) (aCons (eCall m_whole_above (aCons (eVar 2) aNil)) aNil)))
def L_11 : SV := (sIf (tvOr (eT (eBin gtD (eBin mulD (eBor 12) (eBin ixD (eBor 2) (eC (.int 1)))) (eBin ixD (eBor 2) (eC (.int 0))))) (tvOr (eT (eBin leD (eBin mulD (eBin addD (eBor 12) (eC (.int 1))) (eBin ixD (eBor 2) (eC (.int 1)))) (eBin ixD (eBor 2) (eC (.int 0))))) (tvOr (eT (eBin ltD (eBin mulD (eBor 13) (eBin ixD (eBor 2) (eC (.int 1)))) (eBin ixD (eBor 2) (eC (.int 0))))) (eT (eBin geD (eBin mulD (eBin subD (eBor 13) (eC (.int 1))) (eBin ixD (eBor 2) (eC (.int 1)))) (eBin ixD (eBor 2) (eC (.int 0)))))))) (sRet (eC (.bl false))) sNil)
def L_12 : SV := (sIf (tvOr (eT (eBin neD (eCall m_is_whole_part (aCons (eVar 2) aNil)) (eBin eqD (eBin ixD (eBor 2) (eC (.int 1))) (eC (.int 1))))) (tvOr (eT (eBin notBlD (eCall m_is_whole_part (aCons (eTup (aCons (eVar 5) (aCons (eC (.int 1)) aNil))) aNil)) (eC (.bl true)))) (eT (eBin notBlD (eCall m_is_whole_part (aCons (eTup (aCons (eC (.int 1)) (aCons (eC (.int 2)) aNil))) aNil)) (eC (.bl false)))))) (sRet (eC (.bl false))) sNil)
def L_13 : SV := (sAsg (eCall m_scaled (aCons (eLc (eSeq (eBor 8)) [11] (tgN 11) tvYes (eVar 11)) aNil)) (tgN 14))
def L_14 : SV := (sIf (tvOr (eT (eBin neD (eCall lenF (aCons (eBor 14) aNil)) (eCall lenF (aCons (eBor 8) aNil)))) (tvAnd (eT (eBin gtD (eCall lenF (aCons (eBor 8) aNil)) (eC (.int 0)))) (tvAnd (eT (eBin gtD (eCall maxF (aCons (eLc (eSeq (eBor 8)) [11] (tgN 11) tvYes (eCall absF (aCons (eBin ixD (eBor 11) (eC (.int 0))) aNil))) aNil)) (eC (.int 0)))) (eT (eBin neD (eCall m__law_gcd_of (aCons (eVar 14) aNil)) (eC (.int 1))))))) (sRet (eC (.bl false))) sNil)
def L_15 : SV := (sFor (eRng (aCons (eCall lenF (aCons (eBor 8) aNil)) aNil)) (tgN 7) (sFor (eRng (aCons (eCall lenF (aCons (eBor 8) aNil)) aNil)) (tgN 15) (sIf (tvOr (eT (eBin neD (eCall m__law_mul (aCons (eTup (aCons (eBin ixD (eBor 14) (eBor 7)) (aCons (eC (.int 1)) aNil))) (aCons (eBin ixD (eBor 8) (eBor 15)) aNil))) (eCall m__law_mul (aCons (eTup (aCons (eBin ixD (eBor 14) (eBor 15)) (aCons (eC (.int 1)) aNil))) (aCons (eBin ixD (eBor 8) (eBor 7)) aNil))))) (tvOr (eT (eBin neD (eBin gtD (eBin ixD (eBor 14) (eBor 7)) (eC (.int 0))) (eBin gtD (eBin ixD (eBin ixD (eBor 8) (eBor 7)) (eC (.int 0))) (eC (.int 0))))) (eT (eBin neD (eBin ltD (eBin ixD (eBor 14) (eBor 7)) (eC (.int 0))) (eBin ltD (eBin ixD (eBin ixD (eBor 8) (eBor 7)) (eC (.int 0))) (eC (.int 0))))))) (sRet (eC (.bl false))) sNil)))
def L_16 : SV := (sAsg (eLc (eSeq (eBor 8)) [11] (tgN 11) tvYes (eBin subD (eCall m__law_take (aCons (eVar 1) (aCons (eC (.int 21)) aNil))) (eC (.int 10)))) (tgN 16))
def L_17 : SV := (sAsg (eTup (aCons (eC (.int 0)) (aCons (eC (.int 1)) aNil))) (tgN 17))
def L_18 : SV := (sFor (eRng (aCons (eCall lenF (aCons (eBor 8) aNil)) aNil)) (tgN 7) (sAsg (eCall m__law_add (aCons (eVar 17) (aCons (eCall m__law_mul (aCons (eTup (aCons (eBin ixD (eBor 16) (eBor 7)) (aCons (eC (.int 1)) aNil))) (aCons (eBin ixD (eBor 8) (eBor 7)) aNil))) aNil))) (tgN 17)))
def L_19 : SV := (sIf (eT (eBin neD (eCall m_dot (aCons (eLc (eSeq (eBor 16)) [11] (tgN 11) tvYes (eVar 11)) (aCons (eLc (eSeq (eBor 8)) [11] (tgN 11) tvYes (eVar 11)) aNil))) (eBor 17))) (sRet (eC (.bl false))) sNil)
def L_20 : SV := (sFor (eSeq (eLst (aCons (eVar 2) (aCons (eCall listF (aCons (eBor 2) aNil)) (aCons (eBin addD (eBor 2) (eTup (aCons (eC (.int 1)) aNil))) (aCons (eTup (aCons (eBin ixD (eBor 2) (eC (.int 0))) (aCons (eBin subD (eC (.int 0)) (eBin ixD (eBor 2) (eC (.int 1)))) aNil))) (aCons (eTup (aCons (eBin addD (eBin mulD (eC (.int 2)) (eBin ixD (eBor 2) (eC (.int 0)))) (eC (.int 2))) (aCons (eC (.int 2)) aNil))) (aCons (eTup (aCons (eVar 5) (aCons (eC (.int 0)) aNil))) (aCons (eTup (aCons (eC (.bl true)) (aCons (eC (.int 1)) aNil))) (aCons (eTup (aCons (eC (.int 1)) (aCons (eC (.bl true)) aNil))) (aCons (eTup (aCons (eC (.int 0)) (aCons (eC (.int 2)) aNil))) (aCons (eTup (aCons (eC (.int 0)) (aCons (eC (.int 1)) aNil))) (aCons (eC .non) (aCons (eC (.int 3)) (aCons (eTup (aCons (eC (.str "1")) (aCons (eC (.int 2)) aNil))) (aCons (eTup (aCons (eVar 5) (aCons (eC (.int 1)) aNil))) (aCons (eTup aNil) aNil))))))))))))))))) (tgN 18) (sIf (eT (eBin neD (eCall m_is_part (aCons (eVar 18) aNil)) (eCall m__law_is (aCons (eVar 18) aNil)))) (sRet (eC (.bl false))) sNil))
def L_21 : SV := (sAsg (eCall tupleF (aCons (eBor 8) aNil)) (tgN 19))
def L_22 : SV := (sFor (eSeq (eLst (aCons (eVar 19) (aCons (eCall listF (aCons (eBor 19) aNil)) (aCons (eBin addD (eBor 19) (eTup (aCons (eC .non) aNil))) (aCons (eBin addD (eBor 19) (eTup (aCons (eTup (aCons (eC (.int 2)) (aCons (eC (.int 4)) aNil))) aNil))) (aCons (eBin addD (eBor 19) (eTup (aCons (eVar 2) aNil))) (aCons (eC .non) (aCons (eTup aNil) (aCons (eTup (aCons (eVar 2) (aCons (eVar 3) (aCons (eVar 4) aNil)))) aNil)))))))))) (tgN 18) (sFor (eSeq (eTup (aCons (eCall lenF (aCons (eBor 19) aNil)) (aCons (eC (.int 3)) aNil)))) (tgN 20) (sIf (eT (eBin neD (eCall m_are_parts (aCons (eVar 18) (aCons (eVar 20) aNil))) (eAnd (eIsi "tuple" (eBor 18)) (eAnd (eBin eqD (eCall lenF (aCons (eBor 18) aNil)) (eBor 20)) (eBin eqD (eCall lenF (aCons (eLc (eSeq (eBor 18)) [11] (tgN 11) (tvNot (eT (eCall m__law_is (aCons (eVar 11) aNil)))) (eVar 11)) aNil)) (eC (.int 0))))))) (sRet (eC (.bl false))) sNil)))
def L_23 : SV := (sRet (eC (.bl true)))
def v_law : SV := (sSeq L_0
  (sSeq L_1
  (sSeq L_2
  (sSeq L_3
  (sSeq L_4
  (sSeq L_5
  (sSeq L_6
  (sSeq L_7
  (sSeq L_8
  (sSeq L_9
  (sSeq L_10
  (sSeq L_11
  (sSeq L_12
  (sSeq L_13
  (sSeq L_14
  (sSeq L_15
  (sSeq L_16
  (sSeq L_17
  (sSeq L_18
  (sSeq L_19
  (sSeq L_20
  (sSeq L_21
  (sSeq L_22
  L_23)))))))))))))))))))))))
end K10

set_option Elab.async false
set_option linter.all false
set_option maxRecDepth 100000
set_option maxHeartbeats 4000000
namespace K10
open PySem PySem.Spec PyProof.Rows L2 DL
theorem ok_divisor {P : Program} {w : World} {K : PySem.W.Frag} {mg : Str → Option Value} {base : Heap} (T : Tx K mg)  : FnOk P w K mg base CX0 1 T.a_divisor T.d_divisor ["one", "other"] (spD K mg 2 m_divisor) :=
  def_ok T.f_divisor sc_divisor rfl fun cdv A outer s H E hr => (pss_consD (ps_par2D (i := 0) (j := 1) rfl sc_divisor.nd rfl rfl (by decide) rfl rfl (pad_cons (pd_callB call_abs abs_ok (by rfl) T.z_abs (by decide +kernel) (pab_cons (pb_var (pv 0)) pab_nil)) (pad_cons (pd_callB call_abs abs_ok (by rfl) T.z_abs (by decide +kernel) (pab_cons (pb_var (pv 1)) pab_nil)) pad_nil)) rfl)
  (pss_consD (ps_whileD PassesOwn.never (pt_cmpD (op_neD hr.units) ne_ok (pb_var (pv 1)) (pd_int).bo (nomark _)) (pss_oneD (ps_par2D (i := 0) (j := 1) rfl sc_divisor.nd rfl rfl (by decide) rfl rfl (pad_cons (pd_var (pv 1)) (pad_cons (pd_bin op_mod mod_ok (pb_var (pv 0)) (pb_var (pv 1))) pad_nil)) rfl)))
  (pss_oneD (ps_retD (pd_var (pv 0))))))
theorem ok_is_less {P : Program} {w : World} {K : PySem.W.Frag} {mg : Str → Option Value} {base : Heap} (T : Tx K mg)  : FnOk P w K mg base CX0 1 T.a_is_less T.d_is_less ["one", "other"] (spD K mg 2 m_is_less) :=
  def_ok T.f_is_less sc_is_less rfl fun cdv A outer s H E hr => (pss_oneD (ps_retD (pd_cmp op_lt lt_ok (pd_bin op_mulD mul_ok (pd_ix (pb_var (pv 0)) (pd_int).bo (fun _ _ => rfl)).bo (pd_ix (pb_var (pv 1)) (pd_int).bo (fun _ _ => rfl)).bo).bo (pd_bin op_mulD mul_ok (pd_ix (pb_var (pv 1)) (pd_int).bo (fun _ _ => rfl)).bo (pd_ix (pb_var (pv 0)) (pd_int).bo (fun _ _ => rfl)).bo).bo (nomark _))))
theorem ok_whole_below {P : Program} {w : World} {K : PySem.W.Frag} {mg : Str → Option Value} {base : Heap} (T : Tx K mg)  : FnOk P w K mg base CX0 1 T.a_whole_below T.d_whole_below ["one"] (spD K mg 1 m_whole_below) :=
  def_ok T.f_whole_below sc_whole_below rfl fun cdv A outer s H E hr => (pss_oneD (ps_retD (pd_bin op_fdivW fdiv_ok (pd_ix (pb_var (pv 0)) (pd_int).bo (fun _ _ => rfl)).bo (pd_ix (pb_var (pv 0)) (pd_int).bo (fun _ _ => rfl)).bo)))
theorem ok_whole_above {P : Program} {w : World} {K : PySem.W.Frag} {mg : Str → Option Value} {base : Heap} (T : Tx K mg)  : FnOk P w K mg base CX0 1 T.a_whole_above T.d_whole_above ["one"] (spD K mg 1 m_whole_above) :=
  def_ok T.f_whole_above sc_whole_above rfl fun cdv A outer s H E hr => (pss_oneD (ps_retD (pd_bin op_sub sub_ok (pd_int).bo (pd_bin op_fdivW fdiv_ok (pd_bin op_sub sub_ok (pd_int).bo (pd_ix (pb_var (pv 0)) (pd_int).bo (fun _ _ => rfl)).bo).bo (pd_ix (pb_var (pv 0)) (pd_int).bo (fun _ _ => rfl)).bo).bo)))
theorem ok_is_whole_part {P : Program} {w : World} {K : PySem.W.Frag} {mg : Str → Option Value} {base : Heap} (T : Tx K mg)  : FnOk P w K mg base CX0 1 T.a_is_whole_part T.d_is_whole_part ["one"] (spD K mg 1 m_is_whole_part) :=
  def_ok T.f_is_whole_part sc_is_whole_part rfl fun cdv A outer s H E hr => (pss_oneD (ps_retD (pd_cmp (op_eqD hr.units) eq_ok (pd_ix (pb_var (pv 0)) (pd_int).bo (fun _ _ => rfl)).bo (pd_int).bo (nomark _))))
theorem ok__law_fr {P : Program} {w : World} {K : PySem.W.Frag} {mg : Str → Option Value} {base : Heap} (T : Tx K mg)  : FnOk P w K mg base CX0 1 T.a__law_fr T.d__law_fr ["above", "below"] (spD K mg 2 m__law_fr) :=
  def_ok T.f__law_fr sc__law_fr rfl fun cdv A outer s H E hr => (pss_consD (ps_ifD (pt_cmpD op_lt lt_ok (pb_var (pv 1)) (pd_int).bo (nomark _)) (pss_oneD (ps_par2D (i := 0) (j := 1) rfl sc__law_fr.nd rfl rfl (by decide) rfl rfl (pad_cons (pd_bin op_sub sub_ok (pd_int).bo (pb_var (pv 0))) (pad_cons (pd_bin op_sub sub_ok (pd_int).bo (pb_var (pv 1))) pad_nil)) rfl)) pss_nilD)
  (pss_consD (ps_par2D (i := 2) (j := 3) rfl sc__law_fr.nd rfl rfl (by decide) rfl rfl (pad_cons (pd_callB call_abs abs_ok (by rfl) T.z_abs (by decide +kernel) (pab_cons (pb_var (pv 0)) pab_nil)) (pad_cons (pd_var (pv 1)) pad_nil)) rfl)
  (pss_consD (ps_forD (vs := [4]) PassesOwn.never rfl (pi_rng1D (by rfl) T.z_range (pad_cons pd_int pad_nil) (len_consA len_nilA)) (pg_nameD (i := 4) (by decide) sc__law_fr.nd rfl (.inl rfl)) (pss_consD (ps_ifD (pt_cmpD (op_eqD hr.units) eq_ok (pb_var (pv 3)) (pd_int).bo (nomark _)) (pss_oneD ps_breakD) pss_nilD)
  (pss_oneD (ps_par2D (i := 2) (j := 3) rfl sc__law_fr.nd rfl rfl (by decide) rfl rfl (pad_cons (pd_var (pv 3)) (pad_cons (pd_bin op_mod mod_ok (pd_callTy call_int1 int_ok (by rfl) T.z_int (by decide +kernel) (pab_cons (pb_var (pv 2)) pab_nil)).bo (pb_var (pv 3))) pad_nil)) rfl))))
  (pss_oneD (ps_retD (pd_tup (pad_cons (pd_bin op_fdivW fdiv_ok (pb_var (pv 0)) (pb_var (pv 2))) (pad_cons (pd_bin op_fdivW fdiv_ok (pb_var (pv 1)) (pb_var (pv 2))) pad_nil))))))))
theorem ok__law_sign {P : Program} {w : World} {K : PySem.W.Frag} {mg : Str → Option Value} {base : Heap} (T : Tx K mg)  : FnOk P w K mg base CX0 1 T.a__law_sign T.d__law_sign ["one", "other"] (spD K mg 2 m__law_sign) :=
  def_ok T.f__law_sign sc__law_sign rfl fun cdv A outer s H E hr => (pss_consD (ps_setD (i := 2) sc__law_sign.nd rfl (.inl rfl) (pd_bin op_sub sub_ok (pd_bin op_mulD mul_ok (pd_ix (pb_var (pv 0)) (pd_int).bo (fun _ _ => rfl)).bo (pd_ix (pb_var (pv 1)) (pd_int).bo (fun _ _ => rfl)).bo).bo (pd_bin op_mulD mul_ok (pd_ix (pb_var (pv 1)) (pd_int).bo (fun _ _ => rfl)).bo (pd_ix (pb_var (pv 0)) (pd_int).bo (fun _ _ => rfl)).bo).bo))
  (pss_oneD (ps_retD (pd_if (pt_cmpD (op_eqD hr.units) eq_ok (pb_var (pv 2)) (pd_int).bo (nomark _)) pd_int (pd_if (pt_cmpD op_gt gt_ok (pb_var (pv 2)) (pd_int).bo (nomark _)) pd_int (pd_un un_neg neg_ok (pd_int).bo))))))
theorem ok__law_gcd {P : Program} {w : World} {K : PySem.W.Frag} {mg : Str → Option Value} {base : Heap} (T : Tx K mg)  : FnOk P w K mg base CX0 1 T.a__law_gcd T.d__law_gcd ["one", "other"] (spD K mg 2 m__law_gcd) :=
  def_ok T.f__law_gcd sc__law_gcd rfl fun cdv A outer s H E hr => (pss_consD (ps_par2D (i := 0) (j := 1) rfl sc__law_gcd.nd rfl rfl (by decide) rfl rfl (pad_cons (pd_callB call_abs abs_ok (by rfl) T.z_abs (by decide +kernel) (pab_cons (pb_var (pv 0)) pab_nil)) (pad_cons (pd_callB call_abs abs_ok (by rfl) T.z_abs (by decide +kernel) (pab_cons (pb_var (pv 1)) pab_nil)) pad_nil)) rfl)
  (pss_consD (ps_forD (vs := [2]) PassesOwn.never rfl (pi_rng1D (by rfl) T.z_range (pad_cons pd_int pad_nil) (len_consA len_nilA)) (pg_nameD (i := 2) (by decide) sc__law_gcd.nd rfl (.inl rfl)) (pss_consD (ps_ifD (pt_cmpD (op_eqD hr.units) eq_ok (pb_var (pv 1)) (pd_int).bo (nomark _)) (pss_oneD ps_breakD) pss_nilD)
  (pss_oneD (ps_par2D (i := 0) (j := 1) rfl sc__law_gcd.nd rfl rfl (by decide) rfl rfl (pad_cons (pd_var (pv 1)) (pad_cons (pd_bin op_mod mod_ok (pd_callTy call_int1 int_ok (by rfl) T.z_int (by decide +kernel) (pab_cons (pb_var (pv 0)) pab_nil)).bo (pb_var (pv 1))) pad_nil)) rfl))))
  (pss_oneD (ps_retD (pd_var (pv 0))))))
theorem ok_part {P : Program} {w : World} {K : PySem.W.Frag} {mg : Str → Option Value} {base : Heap} (T : Tx K mg) (G_divisor : FnOk P w K mg base CX0 1 T.a_divisor T.d_divisor ["one", "other"] (spD K mg 2 m_divisor)) : FnOk P w K mg base CX0 2 T.a_part T.d_part ["above", "below"] (spD K mg 2 m_part) :=
  def_ok T.f_part sc_part rfl fun cdv A outer s H E hr => (pss_consD (ps_ifD (pt_cmpD op_lt lt_ok (pb_var (pv 1)) (pd_int).bo (nomark _)) (pss_oneD (ps_par2D (i := 0) (j := 1) rfl sc_part.nd rfl rfl (by decide) rfl rfl (pad_cons (pd_bin op_sub sub_ok (pd_int).bo (pb_var (pv 0))) (pad_cons (pd_bin op_sub sub_ok (pd_int).bo (pb_var (pv 1))) pad_nil)) rfl)) pss_nilD)
  (pss_consD (ps_setD (i := 2) sc_part.nd rfl (.inl rfl) (pd_call G_divisor (hr.mono (by decide)) (by rfl) T.g_divisor T.f_divisor.kp T.b_divisor pass0 (pad_cons (pd_var (pv 0)) (pad_cons (pd_var (pv 1)) pad_nil)) (len_consA (len_consA len_nilA))))
  (pss_oneD (ps_retD (pd_tup (pad_cons (pd_bin op_fdivW fdiv_ok (pb_var (pv 0)) (pb_var (pv 2))) (pad_cons (pd_bin op_fdivW fdiv_ok (pb_var (pv 1)) (pb_var (pv 2))) pad_nil)))))))
theorem ok_is_part {P : Program} {w : World} {K : PySem.W.Frag} {mg : Str → Option Value} {base : Heap} (T : Tx K mg) (G_divisor : FnOk P w K mg base CX0 1 T.a_divisor T.d_divisor ["one", "other"] (spD K mg 2 m_divisor)) : FnOk P w K mg base CX0 2 T.a_is_part T.d_is_part ["value"] (spD K mg 1 m_is_part) :=
  def_ok T.f_is_part sc_is_part rfl fun cdv A outer s H E hr => (pss_consD (ps_ifD (pw_orD (pt_notD (pt_of (pd_isi (pb_var (pv 0)) (by rfl) T.z_isinstance (by decide +kernel) (by rfl) T.z_tuple (by decide +kernel)))) (pw_or1D (pt_cmpD (op_neD hr.units) ne_ok (pd_callB call_len_seq len_ok (by rfl) T.z_len (by decide +kernel) (pab_cons (pb_var (pv 0)) pab_nil)).bo (pd_int).bo (nomark _)))).t (pss_oneD (ps_retD pd_bl)) pss_nilD)
  (pss_consD (ps_ifD (pt_notD (pt_of (pd_callB (cr_all rfl) all_ok (by rfl) T.z_all (by decide +kernel) (pab_cons (pf_lc (own := [("number", 1)]) rfl sc_is_part.nd (pi_seqB (pb_var (pv 0))) (blkOk_by (N := N_is_part) (sc := defScope sF_is_part) (scope := { kind := .function, names := [(".0", .local), ("number", .local), ("isinstance", .globalImplicit), ("int", .globalImplicit), ("bool", .globalImplicit)], isGenerator := false, isCoroutine := false, more := [] }) (by decide +kernel)) (tgl_name (by decide)) (fun _ _ _ _ _ => (pg_name (i := 1) sc_is_part.nd rfl (.inl rfl))) (fun _ _ _ _ _ => pts_nilD) (fun _ _ _ _ _ => (pd_and (pd_isi (pb_var (pv 1)) (by rfl) T.z_isinstance (by decide +kernel) (by rfl) T.z_int (by decide +kernel)) (pd_one (pd_not (pd_isi (pb_var (pv 1)) (by rfl) T.z_isinstance (by decide +kernel) (by rfl) T.z_bool (by decide +kernel))))))).bo pab_nil)))) (pss_oneD (ps_retD pd_bl)) pss_nilD)
  (pss_oneD (ps_retD (pd_and (pd_cmp op_ge ge_ok (pd_ix (pb_var (pv 0)) (pd_int).bo (fun _ _ => rfl)).bo (pd_int).bo (nomark _)) (pd_one (pd_cmp (op_eqD hr.units) eq_ok (pd_call G_divisor (hr.mono (by decide)) (by rfl) T.g_divisor T.f_divisor.kp T.b_divisor pass0 (pad_cons (pd_ix (pb_var (pv 0)) (pd_int).bo (fun _ _ => rfl)) (pad_cons (pd_ix (pb_var (pv 0)) (pd_int).bo (fun _ _ => rfl)) pad_nil)) (len_consA (len_consA len_nilA))).bo (pd_int).bo (nomark _))))))))
theorem ok_least_of {P : Program} {w : World} {K : PySem.W.Frag} {mg : Str → Option Value} {base : Heap} (T : Tx K mg) (G_is_less : FnOk P w K mg base CX0 1 T.a_is_less T.d_is_less ["one", "other"] (spD K mg 2 m_is_less)) : FnOk P w K mg base CX0 2 T.a_least_of T.d_least_of ["row"] (spD K mg 1 m_least_of) :=
  def_ok T.f_least_of sc_least_of rfl fun cdv A outer s H E hr => (pss_consD (ps_setD (i := 1) sc_least_of.nd rfl (.inl rfl) pd_non)
  (pss_consD (ps_forD (vs := [2]) PassesOwn.never rfl (pi_seqD (pd_var (pv 0))) (pg_nameD (i := 2) (by decide) sc_least_of.nd rfl (.inl rfl)) (pss_oneD (ps_ifD (pw_orD (pt_cmpD op_isN isN_ok (pb_var (pv 1)) (pd_non).bo (nomark _)) (pw_or1D (pt_of (pd_call G_is_less (hr.mono (by decide)) (by rfl) T.g_is_less T.f_is_less.kp T.b_is_less pass0 (pad_cons (pd_var (pv 2)) (pad_cons (pd_var (pv 1)) pad_nil)) (len_consA (len_consA len_nilA)))))).t (pss_oneD (ps_setD (i := 1) sc_least_of.nd rfl (.inl rfl) (pd_var (pv 2)))) pss_nilD)))
  (pss_oneD (ps_retD (pd_var (pv 1))))))
theorem ok_scaled {P : Program} {w : World} {K : PySem.W.Frag} {mg : Str → Option Value} {base : Heap} (T : Tx K mg) (G_divisor : FnOk P w K mg base CX0 1 T.a_divisor T.d_divisor ["one", "other"] (spD K mg 2 m_divisor)) : FnOk P w K mg base CX0 2 T.a_scaled T.d_scaled ["row"] (spD K mg 1 m_scaled) :=
  def_ok T.f_scaled sc_scaled rfl fun cdv A outer s H E hr => (pss_consD (ps_setD (i := 1) sc_scaled.nd rfl (.inr rfl) pd_int)
  (pss_consD (ps_forD (vs := [2]) PassesOwn.never rfl (pi_seqD (pd_var (pv 0))) (pg_nameD (i := 2) (by decide) sc_scaled.nd rfl (.inl rfl)) (pss_oneD (ps_setD (i := 1) sc_scaled.nd rfl (.inr rfl) (pd_bin op_fdivW fdiv_ok (pd_bin op_mulD mul_ok (pb_var (pv 1)) (pd_ix (pb_var (pv 2)) (pd_int).bo (fun _ _ => rfl)).bo).bo (pd_call G_divisor (hr.mono (by decide)) (by rfl) T.g_divisor T.f_divisor.kp T.b_divisor pass0 (pad_cons (pd_var (pv 1)) (pad_cons (pd_ix (pb_var (pv 2)) (pd_int).bo (fun _ _ => rfl)) pad_nil)) (len_consA (len_consA len_nilA))).bo))))
  (pss_consD (ps_setLcD (i := 3) (own := [("one", 2)]) rfl sc_scaled.nd rfl rfl (sw_true rfl rfl rfl (by decide +kernel)) (pi_seqB (pb_var (pv 0))) (blkOk_by (N := N_scaled) (sc := defScope sF_scaled) (scope := { kind := .function, names := [(".0", .local), ("one", .local), ("common", .free)], isGenerator := false, isCoroutine := false, more := [] }) (by decide +kernel)) (tgl_name (by decide)) (fun _ _ _ _ _ => (pg_name (i := 2) sc_scaled.nd rfl (.inl rfl))) (fun _ _ _ _ _ => pts_nilD) (fun _ _ _ _ _ => (pd_bin op_mulD mul_ok (pd_ix (pb_var (pv 2)) (pd_int).bo (fun _ _ => rfl)).bo (pd_bin op_fdivW fdiv_ok (pb_var (pv 1)) (pd_ix (pb_var (pv 2)) (pd_int).bo (fun _ _ => rfl)).bo).bo)))
  (pss_consD (ps_setD (i := 4) sc_scaled.nd rfl (.inr rfl) pd_int)
  (pss_consD (ps_forD (vs := [5]) PassesOwn.never rfl (pi_seqD (pd_var (pv 3))) (pg_nameD (i := 5) (by decide) sc_scaled.nd rfl (.inl rfl)) (pss_oneD (ps_setD (i := 4) sc_scaled.nd rfl (.inr rfl) (pd_call G_divisor (hr.mono (by decide)) (by rfl) T.g_divisor T.f_divisor.kp T.b_divisor pass0 (pad_cons (pd_var (pv 4)) (pad_cons (pd_var (pv 5)) pad_nil)) (len_consA (len_consA len_nilA))))))
  (pss_oneD (ps_retD (pd_if (pt_cmpD (op_eqD hr.units) eq_ok (pb_var (pv 4)) (pd_int).bo (nomark _)) (pd_callTy call_tuple_of tuple_ok (by rfl) T.z_tuple (by decide +kernel) (pab_cons (pb_var (pv 3)) pab_nil)) (pd_callTy call_tuple_of tuple_ok (by rfl) T.z_tuple (by decide +kernel) (pab_cons (pf_lc (own := [("number", 5)]) rfl sc_scaled.nd (pi_seqB (pb_var (pv 3))) (blkOk_by (N := N_scaled) (sc := defScope sF_scaled) (scope := { kind := .function, names := [(".0", .local), ("number", .local), ("shared", .free)], isGenerator := false, isCoroutine := false, more := [] }) (by decide +kernel)) (tgl_name (by decide)) (fun _ _ _ _ _ => (pg_name (i := 5) sc_scaled.nd rfl (.inl rfl))) (fun _ _ _ _ _ => pts_nilD) (fun _ _ _ _ _ => (pd_bin op_fdivW fdiv_ok (pb_var (pv 5)) (pb_var (pv 4))))).bo pab_nil))))))))))
theorem ok__law_pick {P : Program} {w : World} {K : PySem.W.Frag} {mg : Str → Option Value} {base : Heap} (T : Tx K mg) (G__law_take : FnOk P w K mg base CX0 1 T.a__law_take T.d__law_take ["state", "most"] (spD K mg 2 m__law_take)) : FnOk P w K mg base CX0 2 T.a__law_pick T.d__law_pick ["state", "row"] (spD K mg 2 m__law_pick) :=
  def_ok T.f__law_pick sc__law_pick rfl fun cdv A outer s H E hr => (pss_oneD (ps_retD (pd_ix (pb_var (pv 1)) (pd_call G__law_take (hr.mono (by decide)) (by rfl) T.g__law_take T.f__law_take.kp T.b__law_take pass0 (pad_cons (pd_var (pv 0)) (pad_cons (pd_callB call_len_seq len_ok (by rfl) T.z_len (by decide +kernel) (pab_cons (pb_var (pv 1)) pab_nil)) pad_nil)) (len_consA (len_consA len_nilA))).bo (fun _ _ => rfl))))
theorem ok__law_add {P : Program} {w : World} {K : PySem.W.Frag} {mg : Str → Option Value} {base : Heap} (T : Tx K mg) (G__law_fr : FnOk P w K mg base CX0 1 T.a__law_fr T.d__law_fr ["above", "below"] (spD K mg 2 m__law_fr)) : FnOk P w K mg base CX0 2 T.a__law_add T.d__law_add ["one", "other"] (spD K mg 2 m__law_add) :=
  def_ok T.f__law_add sc__law_add rfl fun cdv A outer s H E hr => (pss_oneD (ps_retD (pd_call G__law_fr (hr.mono (by decide)) (by rfl) T.g__law_fr T.f__law_fr.kp T.b__law_fr pass0 (pad_cons (pd_bin op_addD add_ok (pd_bin op_mulD mul_ok (pd_ix (pb_var (pv 0)) (pd_int).bo (fun _ _ => rfl)).bo (pd_ix (pb_var (pv 1)) (pd_int).bo (fun _ _ => rfl)).bo).bo (pd_bin op_mulD mul_ok (pd_ix (pb_var (pv 1)) (pd_int).bo (fun _ _ => rfl)).bo (pd_ix (pb_var (pv 0)) (pd_int).bo (fun _ _ => rfl)).bo).bo) (pad_cons (pd_bin op_mulD mul_ok (pd_ix (pb_var (pv 0)) (pd_int).bo (fun _ _ => rfl)).bo (pd_ix (pb_var (pv 1)) (pd_int).bo (fun _ _ => rfl)).bo) pad_nil)) (len_consA (len_consA len_nilA)))))
theorem ok__law_mul {P : Program} {w : World} {K : PySem.W.Frag} {mg : Str → Option Value} {base : Heap} (T : Tx K mg) (G__law_fr : FnOk P w K mg base CX0 1 T.a__law_fr T.d__law_fr ["above", "below"] (spD K mg 2 m__law_fr)) : FnOk P w K mg base CX0 2 T.a__law_mul T.d__law_mul ["one", "other"] (spD K mg 2 m__law_mul) :=
  def_ok T.f__law_mul sc__law_mul rfl fun cdv A outer s H E hr => (pss_oneD (ps_retD (pd_call G__law_fr (hr.mono (by decide)) (by rfl) T.g__law_fr T.f__law_fr.kp T.b__law_fr pass0 (pad_cons (pd_bin op_mulD mul_ok (pd_ix (pb_var (pv 0)) (pd_int).bo (fun _ _ => rfl)).bo (pd_ix (pb_var (pv 1)) (pd_int).bo (fun _ _ => rfl)).bo) (pad_cons (pd_bin op_mulD mul_ok (pd_ix (pb_var (pv 0)) (pd_int).bo (fun _ _ => rfl)).bo (pd_ix (pb_var (pv 1)) (pd_int).bo (fun _ _ => rfl)).bo) pad_nil)) (len_consA (len_consA len_nilA)))))
theorem ok__law_gcd_of {P : Program} {w : World} {K : PySem.W.Frag} {mg : Str → Option Value} {base : Heap} (T : Tx K mg) (G__law_gcd : FnOk P w K mg base CX0 1 T.a__law_gcd T.d__law_gcd ["one", "other"] (spD K mg 2 m__law_gcd)) : FnOk P w K mg base CX0 2 T.a__law_gcd_of T.d__law_gcd_of ["row"] (spD K mg 1 m__law_gcd_of) :=
  def_ok T.f__law_gcd_of sc__law_gcd_of rfl fun cdv A outer s H E hr => (pss_consD (ps_setD (i := 1) sc__law_gcd_of.nd rfl (.inl rfl) pd_int)
  (pss_consD (ps_forD (vs := [2]) PassesOwn.never rfl (pi_seqD (pd_var (pv 0))) (pg_nameD (i := 2) (by decide) sc__law_gcd_of.nd rfl (.inl rfl)) (pss_oneD (ps_setD (i := 1) sc__law_gcd_of.nd rfl (.inl rfl) (pd_call G__law_gcd (hr.mono (by decide)) (by rfl) T.g__law_gcd T.f__law_gcd.kp T.b__law_gcd pass0 (pad_cons (pd_var (pv 1)) (pad_cons (pd_var (pv 2)) pad_nil)) (len_consA (len_consA len_nilA))))))
  (pss_oneD (ps_retD (pd_var (pv 1))))))
theorem ok__law_is {P : Program} {w : World} {K : PySem.W.Frag} {mg : Str → Option Value} {base : Heap} (T : Tx K mg) (G__law_gcd : FnOk P w K mg base CX0 1 T.a__law_gcd T.d__law_gcd ["one", "other"] (spD K mg 2 m__law_gcd)) : FnOk P w K mg base CX0 2 T.a__law_is T.d__law_is ["value"] (spD K mg 1 m__law_is) :=
  def_ok T.f__law_is sc__law_is rfl fun cdv A outer s H E hr => (pss_consD (ps_ifD (pw_orD (pt_notD (pt_of (pd_isi (pb_var (pv 0)) (by rfl) T.z_isinstance (by decide +kernel) (by rfl) T.z_tuple (by decide +kernel)))) (pw_or1D (pt_cmpD (op_neD hr.units) ne_ok (pd_callB call_len_seq len_ok (by rfl) T.z_len (by decide +kernel) (pab_cons (pb_var (pv 0)) pab_nil)).bo (pd_int).bo (nomark _)))).t (pss_oneD (ps_retD pd_bl)) pss_nilD)
  (pss_consD (ps_ifD (pt_cmpD op_gt gt_ok (pd_callB call_len_seq len_ok (by rfl) T.z_len (by decide +kernel) (pab_cons (pf_lc (own := [("n", 1)]) rfl sc__law_is.nd (pi_seqB (pb_var (pv 0))) (blkOk_by (N := N__law_is) (sc := defScope sF__law_is) (scope := { kind := .function, names := [(".0", .local), ("n", .local), ("isinstance", .globalImplicit), ("int", .globalImplicit), ("bool", .globalImplicit)], isGenerator := false, isCoroutine := false, more := [] }) (by decide +kernel)) (tgl_name (by decide)) (fun _ _ _ _ _ => (pg_name (i := 1) sc__law_is.nd rfl (.inl rfl))) (fun _ _ _ _ _ => (pts_oneD (pw_orD (pt_notD (pt_of (pd_isi (pb_var (pv 1)) (by rfl) T.z_isinstance (by decide +kernel) (by rfl) T.z_int (by decide +kernel)))) (pw_or1D (pt_of (pd_isi (pb_var (pv 1)) (by rfl) T.z_isinstance (by decide +kernel) (by rfl) T.z_bool (by decide +kernel))))).t)) (fun _ _ _ _ _ => (pd_var (pv 1)))).bo pab_nil)).bo (pd_int).bo (nomark _)) (pss_oneD (ps_retD pd_bl)) pss_nilD)
  (pss_oneD (ps_retD (pd_and (pd_cmp op_gt gt_ok (pd_ix (pb_var (pv 0)) (pd_int).bo (fun _ _ => rfl)).bo (pd_int).bo (nomark _)) (pd_one (pd_cmp (op_eqD hr.units) eq_ok (pd_call G__law_gcd (hr.mono (by decide)) (by rfl) T.g__law_gcd T.f__law_gcd.kp T.b__law_gcd pass0 (pad_cons (pd_ix (pb_var (pv 0)) (pd_int).bo (fun _ _ => rfl)) (pad_cons (pd_ix (pb_var (pv 0)) (pd_int).bo (fun _ _ => rfl)) pad_nil)) (len_consA (len_consA len_nilA))).bo (pd_int).bo (nomark _))))))))
theorem ok_plus {P : Program} {w : World} {K : PySem.W.Frag} {mg : Str → Option Value} {base : Heap} (T : Tx K mg) (G_part : FnOk P w K mg base CX0 2 T.a_part T.d_part ["above", "below"] (spD K mg 2 m_part)) : FnOk P w K mg base CX0 3 T.a_plus T.d_plus ["one", "other"] (spD K mg 2 m_plus) :=
  def_ok T.f_plus sc_plus rfl fun cdv A outer s H E hr => (pss_oneD (ps_retD (pd_call G_part (hr.mono (by decide)) (by rfl) T.g_part T.f_part.kp T.b_part pass0 (pad_cons (pd_bin op_addD add_ok (pd_bin op_mulD mul_ok (pd_ix (pb_var (pv 0)) (pd_int).bo (fun _ _ => rfl)).bo (pd_ix (pb_var (pv 1)) (pd_int).bo (fun _ _ => rfl)).bo).bo (pd_bin op_mulD mul_ok (pd_ix (pb_var (pv 1)) (pd_int).bo (fun _ _ => rfl)).bo (pd_ix (pb_var (pv 0)) (pd_int).bo (fun _ _ => rfl)).bo).bo) (pad_cons (pd_bin op_mulD mul_ok (pd_ix (pb_var (pv 0)) (pd_int).bo (fun _ _ => rfl)).bo (pd_ix (pb_var (pv 1)) (pd_int).bo (fun _ _ => rfl)).bo) pad_nil)) (len_consA (len_consA len_nilA)))))
theorem ok_minus {P : Program} {w : World} {K : PySem.W.Frag} {mg : Str → Option Value} {base : Heap} (T : Tx K mg) (G_part : FnOk P w K mg base CX0 2 T.a_part T.d_part ["above", "below"] (spD K mg 2 m_part)) : FnOk P w K mg base CX0 3 T.a_minus T.d_minus ["one", "other"] (spD K mg 2 m_minus) :=
  def_ok T.f_minus sc_minus rfl fun cdv A outer s H E hr => (pss_oneD (ps_retD (pd_call G_part (hr.mono (by decide)) (by rfl) T.g_part T.f_part.kp T.b_part pass0 (pad_cons (pd_bin op_sub sub_ok (pd_bin op_mulD mul_ok (pd_ix (pb_var (pv 0)) (pd_int).bo (fun _ _ => rfl)).bo (pd_ix (pb_var (pv 1)) (pd_int).bo (fun _ _ => rfl)).bo).bo (pd_bin op_mulD mul_ok (pd_ix (pb_var (pv 1)) (pd_int).bo (fun _ _ => rfl)).bo (pd_ix (pb_var (pv 0)) (pd_int).bo (fun _ _ => rfl)).bo).bo) (pad_cons (pd_bin op_mulD mul_ok (pd_ix (pb_var (pv 0)) (pd_int).bo (fun _ _ => rfl)).bo (pd_ix (pb_var (pv 1)) (pd_int).bo (fun _ _ => rfl)).bo) pad_nil)) (len_consA (len_consA len_nilA)))))
theorem ok_times {P : Program} {w : World} {K : PySem.W.Frag} {mg : Str → Option Value} {base : Heap} (T : Tx K mg) (G_part : FnOk P w K mg base CX0 2 T.a_part T.d_part ["above", "below"] (spD K mg 2 m_part)) : FnOk P w K mg base CX0 3 T.a_times T.d_times ["one", "other"] (spD K mg 2 m_times) :=
  def_ok T.f_times sc_times rfl fun cdv A outer s H E hr => (pss_oneD (ps_retD (pd_call G_part (hr.mono (by decide)) (by rfl) T.g_part T.f_part.kp T.b_part pass0 (pad_cons (pd_bin op_mulD mul_ok (pd_ix (pb_var (pv 0)) (pd_int).bo (fun _ _ => rfl)).bo (pd_ix (pb_var (pv 1)) (pd_int).bo (fun _ _ => rfl)).bo) (pad_cons (pd_bin op_mulD mul_ok (pd_ix (pb_var (pv 0)) (pd_int).bo (fun _ _ => rfl)).bo (pd_ix (pb_var (pv 1)) (pd_int).bo (fun _ _ => rfl)).bo) pad_nil)) (len_consA (len_consA len_nilA)))))
theorem ok_over {P : Program} {w : World} {K : PySem.W.Frag} {mg : Str → Option Value} {base : Heap} (T : Tx K mg) (G_part : FnOk P w K mg base CX0 2 T.a_part T.d_part ["above", "below"] (spD K mg 2 m_part)) : FnOk P w K mg base CX0 3 T.a_over T.d_over ["one", "other"] (spD K mg 2 m_over) :=
  def_ok T.f_over sc_over rfl fun cdv A outer s H E hr => (pss_oneD (ps_retD (pd_call G_part (hr.mono (by decide)) (by rfl) T.g_part T.f_part.kp T.b_part pass0 (pad_cons (pd_bin op_mulD mul_ok (pd_ix (pb_var (pv 0)) (pd_int).bo (fun _ _ => rfl)).bo (pd_ix (pb_var (pv 1)) (pd_int).bo (fun _ _ => rfl)).bo) (pad_cons (pd_bin op_mulD mul_ok (pd_ix (pb_var (pv 0)) (pd_int).bo (fun _ _ => rfl)).bo (pd_ix (pb_var (pv 1)) (pd_int).bo (fun _ _ => rfl)).bo) pad_nil)) (len_consA (len_consA len_nilA)))))
theorem ok_are_parts {P : Program} {w : World} {K : PySem.W.Frag} {mg : Str → Option Value} {base : Heap} (T : Tx K mg) (G_is_part : FnOk P w K mg base CX0 2 T.a_is_part T.d_is_part ["value"] (spD K mg 1 m_is_part)) : FnOk P w K mg base CX0 3 T.a_are_parts T.d_are_parts ["value", "many"] (spD K mg 2 m_are_parts) :=
  def_ok T.f_are_parts sc_are_parts rfl fun cdv A outer s H E hr => (pss_oneD (ps_retD (pd_and (pd_isi (pb_var (pv 0)) (by rfl) T.z_isinstance (by decide +kernel) (by rfl) T.z_tuple (by decide +kernel)) (pd_and (pd_cmp (op_eqD hr.units) eq_ok (pd_callB call_len_seq len_ok (by rfl) T.z_len (by decide +kernel) (pab_cons (pb_var (pv 0)) pab_nil)).bo (pb_var (pv 1)) (nomark _)) (pd_one (pd_callB (cr_all rfl) all_ok (by rfl) T.z_all (by decide +kernel) (pab_cons (pf_lc (own := [("one", 2)]) rfl sc_are_parts.nd (pi_seqB (pb_var (pv 0))) (blkOk_by (N := N_are_parts) (sc := defScope sF_are_parts) (scope := { kind := .function, names := [(".0", .local), ("one", .local), ("is_part", .globalImplicit)], isGenerator := false, isCoroutine := false, more := [] }) (by decide +kernel)) (tgl_name (by decide)) (fun _ _ _ _ _ => (pg_name (i := 2) sc_are_parts.nd rfl (.inl rfl))) (fun _ _ _ _ _ => pts_nilD) (fun _ _ _ _ _ => (pd_call G_is_part (hr.mono (by decide)) (by rfl) T.g_is_part T.f_is_part.kp T.b_is_part pass0 (pad_cons (pd_var (pv 2)) pad_nil) (len_consA len_nilA)))).bo pab_nil)))))))
theorem ok__law_sub {P : Program} {w : World} {K : PySem.W.Frag} {mg : Str → Option Value} {base : Heap} (T : Tx K mg) (G__law_add : FnOk P w K mg base CX0 2 T.a__law_add T.d__law_add ["one", "other"] (spD K mg 2 m__law_add)) : FnOk P w K mg base CX0 3 T.a__law_sub T.d__law_sub ["one", "other"] (spD K mg 2 m__law_sub) :=
  def_ok T.f__law_sub sc__law_sub rfl fun cdv A outer s H E hr => (pss_oneD (ps_retD (pd_call G__law_add (hr.mono (by decide)) (by rfl) T.g__law_add T.f__law_add.kp T.b__law_add pass0 (pad_cons (pd_var (pv 0)) (pad_cons (pd_tup (pad_cons (pd_bin op_sub sub_ok (pd_int).bo (pd_ix (pb_var (pv 1)) (pd_int).bo (fun _ _ => rfl)).bo) (pad_cons (pd_ix (pb_var (pv 1)) (pd_int).bo (fun _ _ => rfl)) pad_nil))) pad_nil)) (len_consA (len_consA len_nilA)))))
theorem ok__law_part {P : Program} {w : World} {K : PySem.W.Frag} {mg : Str → Option Value} {base : Heap} (T : Tx K mg) (G__law_fr : FnOk P w K mg base CX0 1 T.a__law_fr T.d__law_fr ["above", "below"] (spD K mg 2 m__law_fr)) (G__law_pick : FnOk P w K mg base CX0 2 T.a__law_pick T.d__law_pick ["state", "row"] (spD K mg 2 m__law_pick)) (G__law_take : FnOk P w K mg base CX0 1 T.a__law_take T.d__law_take ["state", "most"] (spD K mg 2 m__law_take)) : FnOk P w K mg base CX0 3 T.a__law_part T.d__law_part ["state"] (spD K mg 1 m__law_part) :=
  def_ok T.f__law_part sc__law_part rfl fun cdv A outer s H E hr => (pss_consD (ps_setD (i := 1) sc__law_part.nd rfl (.inl rfl) (pd_call G__law_pick (hr.mono (by decide)) (by rfl) T.g__law_pick T.f__law_pick.kp T.b__law_pick pass0 (pad_cons (pd_var (pv 0)) (pad_cons (pf_lst (pad_cons pd_int (pad_cons pd_int (pad_cons pd_int (pad_cons pd_int pad_nil))))).d pad_nil)) (len_consA (len_consA len_nilA))))
  (pss_oneD (ps_retD (pd_call G__law_fr (hr.mono (by decide)) (by rfl) T.g__law_fr T.f__law_fr.kp T.b__law_fr pass0 (pad_cons (pd_bin op_sub sub_ok (pd_call G__law_take (hr.mono (by decide)) (by rfl) T.g__law_take T.f__law_take.kp T.b__law_take pass0 (pad_cons (pd_var (pv 0)) (pad_cons (pd_bin op_addD add_ok (pd_bin op_mulD mul_ok (pd_int).bo (pb_var (pv 1))).bo (pd_int).bo) pad_nil)) (len_consA (len_consA len_nilA))).bo (pb_var (pv 1))) (pad_cons (pd_bin op_addD add_ok (pd_int).bo (pd_call G__law_take (hr.mono (by decide)) (by rfl) T.g__law_take T.f__law_take.kp T.b__law_take pass0 (pad_cons (pd_var (pv 0)) (pad_cons (pd_call G__law_pick (hr.mono (by decide)) (by rfl) T.g__law_pick T.f__law_pick.kp T.b__law_pick pass0 (pad_cons (pd_var (pv 0)) (pad_cons (pf_lst (pad_cons pd_int (pad_cons pd_int (pad_cons pd_int pad_nil)))).d pad_nil)) (len_consA (len_consA len_nilA))) pad_nil)) (len_consA (len_consA len_nilA))).bo) pad_nil)) (len_consA (len_consA len_nilA))))))
theorem ok_total {P : Program} {w : World} {K : PySem.W.Frag} {mg : Str → Option Value} {base : Heap} (T : Tx K mg) (G_plus : FnOk P w K mg base CX0 3 T.a_plus T.d_plus ["one", "other"] (spD K mg 2 m_plus)) : FnOk P w K mg base CX0 4 T.a_total T.d_total ["row"] (spD K mg 1 m_total) :=
  def_ok T.f_total sc_total rfl fun cdv A outer s H E hr => (pss_consD (ps_setD (i := 1) sc_total.nd rfl (.inl rfl) (pd_tup (pad_cons pd_int (pad_cons pd_int pad_nil))))
  (pss_consD (ps_forD (vs := [2]) PassesOwn.never rfl (pi_seqD (pd_var (pv 0))) (pg_nameD (i := 2) (by decide) sc_total.nd rfl (.inl rfl)) (pss_oneD (ps_setD (i := 1) sc_total.nd rfl (.inl rfl) (pd_call G_plus (hr.mono (by decide)) (by rfl) T.g_plus T.f_plus.kp T.b_plus pass0 (pad_cons (pd_var (pv 1)) (pad_cons (pd_var (pv 2)) pad_nil)) (len_consA (len_consA len_nilA))))))
  (pss_oneD (ps_retD (pd_var (pv 1))))))
theorem ok_dot {P : Program} {w : World} {K : PySem.W.Frag} {mg : Str → Option Value} {base : Heap} (T : Tx K mg) (G_times : FnOk P w K mg base CX0 3 T.a_times T.d_times ["one", "other"] (spD K mg 2 m_times)) (G_total : FnOk P w K mg base CX0 4 T.a_total T.d_total ["row"] (spD K mg 1 m_total)) : FnOk P w K mg base CX0 5 T.a_dot T.d_dot ["row", "point"] (spD K mg 2 m_dot) :=
  def_ok T.f_dot sc_dot rfl fun cdv A outer s H E hr => (pss_oneD (ps_retD (pd_call G_total (hr.mono (by decide)) (by rfl) T.g_total T.f_total.kp T.b_total pass0 (pad_cons (pf_lc (own := [("k", 2)]) rfl sc_dot.nd (pi_rng1D (by rfl) T.z_range (pad_cons (pd_callB call_len_seq len_ok (by rfl) T.z_len (by decide +kernel) (pab_cons (pb_var (pv 0)) pab_nil)) pad_nil) (len_consA len_nilA)).bo (blkOk_by (N := N_dot) (sc := defScope sF_dot) (scope := { kind := .function, names := [(".0", .local), ("k", .local), ("times", .globalImplicit), ("point", .free), ("row", .free)], isGenerator := false, isCoroutine := false, more := [] }) (by decide +kernel)) (tgl_name (by decide)) (fun _ _ _ _ _ => (pg_name (i := 2) sc_dot.nd rfl (.inl rfl))) (fun _ _ _ _ _ => pts_nilD) (fun _ _ _ _ _ => (pd_call G_times (hr.mono (by decide)) (by rfl) T.g_times T.f_times.kp T.b_times pass0 (pad_cons (pd_ix (pb_var (pv 1)) (pb_var (pv 2)) (fun _ _ => rfl)) (pad_cons (pd_tup (pad_cons (pd_ix (pb_var (pv 0)) (pb_var (pv 2)) (fun _ _ => rfl)) (pad_cons pd_int pad_nil))) pad_nil)) (len_consA (len_consA len_nilA))))).d pad_nil) (len_consA len_nilA))))
theorem rest_law {P : Program} {w : World} {K : PySem.W.Frag} {mg : Str → Option Value} {base : Heap} (T : Tx K mg) (G__law_add : FnOk P w K mg base CX0 2 T.a__law_add T.d__law_add ["one", "other"] (spD K mg 2 m__law_add)) (G__law_fr : FnOk P w K mg base CX0 1 T.a__law_fr T.d__law_fr ["above", "below"] (spD K mg 2 m__law_fr)) (G__law_gcd : FnOk P w K mg base CX0 1 T.a__law_gcd T.d__law_gcd ["one", "other"] (spD K mg 2 m__law_gcd)) (G__law_gcd_of : FnOk P w K mg base CX0 2 T.a__law_gcd_of T.d__law_gcd_of ["row"] (spD K mg 1 m__law_gcd_of)) (G__law_is : FnOk P w K mg base CX0 2 T.a__law_is T.d__law_is ["value"] (spD K mg 1 m__law_is)) (G__law_mul : FnOk P w K mg base CX0 2 T.a__law_mul T.d__law_mul ["one", "other"] (spD K mg 2 m__law_mul)) (G__law_part : FnOk P w K mg base CX0 3 T.a__law_part T.d__law_part ["state"] (spD K mg 1 m__law_part)) (G__law_sign : FnOk P w K mg base CX0 1 T.a__law_sign T.d__law_sign ["one", "other"] (spD K mg 2 m__law_sign)) (G__law_sub : FnOk P w K mg base CX0 3 T.a__law_sub T.d__law_sub ["one", "other"] (spD K mg 2 m__law_sub)) (G__law_take : FnOk P w K mg base CX0 1 T.a__law_take T.d__law_take ["state", "most"] (spD K mg 2 m__law_take)) (G_are_parts : FnOk P w K mg base CX0 3 T.a_are_parts T.d_are_parts ["value", "many"] (spD K mg 2 m_are_parts)) (G_divisor : FnOk P w K mg base CX0 1 T.a_divisor T.d_divisor ["one", "other"] (spD K mg 2 m_divisor)) (G_dot : FnOk P w K mg base CX0 5 T.a_dot T.d_dot ["row", "point"] (spD K mg 2 m_dot)) (G_is_less : FnOk P w K mg base CX0 1 T.a_is_less T.d_is_less ["one", "other"] (spD K mg 2 m_is_less)) (G_is_part : FnOk P w K mg base CX0 2 T.a_is_part T.d_is_part ["value"] (spD K mg 1 m_is_part)) (G_is_whole_part : FnOk P w K mg base CX0 1 T.a_is_whole_part T.d_is_whole_part ["one"] (spD K mg 1 m_is_whole_part)) (G_least_of : FnOk P w K mg base CX0 2 T.a_least_of T.d_least_of ["row"] (spD K mg 1 m_least_of)) (G_minus : FnOk P w K mg base CX0 3 T.a_minus T.d_minus ["one", "other"] (spD K mg 2 m_minus)) (G_over : FnOk P w K mg base CX0 3 T.a_over T.d_over ["one", "other"] (spD K mg 2 m_over)) (G_part : FnOk P w K mg base CX0 2 T.a_part T.d_part ["above", "below"] (spD K mg 2 m_part)) (G_plus : FnOk P w K mg base CX0 3 T.a_plus T.d_plus ["one", "other"] (spD K mg 2 m_plus)) (G_scaled : FnOk P w K mg base CX0 2 T.a_scaled T.d_scaled ["row"] (spD K mg 1 m_scaled)) (G_times : FnOk P w K mg base CX0 3 T.a_times T.d_times ["one", "other"] (spD K mg 2 m_times)) (G_total : FnOk P w K mg base CX0 4 T.a_total T.d_total ["row"] (spD K mg 1 m_total)) (G_whole_above : FnOk P w K mg base CX0 1 T.a_whole_above T.d_whole_above ["one"] (spD K mg 1 m_whole_above)) (G_whole_below : FnOk P w K mg base CX0 1 T.a_whole_below T.d_whole_below ["one"] (spD K mg 1 m_whole_below)) {f : Addr} {cdv : Value} {A : Around} {outer : List PySem.Env} {s : Shared} {H : Hp} {E : XK} (hr : Room 5 (A.deeper (envOfC "law" (defScope sF_law) s.heap.objs.size f cdv))) :
    PSsD (cxOf CX0 P w K mg base N_law "law" (defScope sF_law) f cdv A outer s H E).nox L2.E0 ((defBody sF_law).drop 1) v_law := (pss_consD (ps_par3D (i := 2) (j := 3) (l := 4) rfl sc_law.nd rfl rfl rfl (by decide) (by decide) (by decide) rfl rfl rfl (pad_cons (pd_call G__law_part (hr.mono (by decide)) (by rfl) T.g__law_part T.f__law_part.kp T.b__law_part pass0 (pad_cons (pd_var (pv 1)) pad_nil) (len_consA len_nilA)) (pad_cons (pd_call G__law_part (hr.mono (by decide)) (by rfl) T.g__law_part T.f__law_part.kp T.b__law_part pass0 (pad_cons (pd_var (pv 1)) pad_nil) (len_consA len_nilA)) (pad_cons (pd_call G__law_part (hr.mono (by decide)) (by rfl) T.g__law_part T.f__law_part.kp T.b__law_part pass0 (pad_cons (pd_var (pv 1)) pad_nil) (len_consA len_nilA)) pad_nil))) rfl)
  (pss_consD (ps_par2D (i := 5) (j := 6) rfl sc_law.nd rfl rfl (by decide) rfl rfl (pad_cons (pd_bin op_sub sub_ok (pd_call G__law_take (hr.mono (by decide)) (by rfl) T.g__law_take T.f__law_take.kp T.b__law_take pass0 (pad_cons (pd_var (pv 1)) (pad_cons pd_int pad_nil)) (len_consA (len_consA len_nilA))).bo (pd_int).bo) (pad_cons (pd_bin op_sub sub_ok (pd_call G__law_take (hr.mono (by decide)) (by rfl) T.g__law_take T.f__law_take.kp T.b__law_take pass0 (pad_cons (pd_var (pv 1)) (pad_cons pd_int pad_nil)) (len_consA (len_consA len_nilA))).bo (pd_int).bo) pad_nil)) rfl)
  (pss_consD (ps_ifD (pw_orD (pt_cmpD (op_neD hr.units) ne_ok (pd_call G_divisor (hr.mono (by decide)) (by rfl) T.g_divisor T.f_divisor.kp T.b_divisor pass0 (pad_cons (pd_var (pv 5)) (pad_cons (pd_var (pv 6)) pad_nil)) (len_consA (len_consA len_nilA))).bo (pd_call G__law_gcd (hr.mono (by decide)) (by rfl) T.g__law_gcd T.f__law_gcd.kp T.b__law_gcd pass0 (pad_cons (pd_var (pv 5)) (pad_cons (pd_var (pv 6)) pad_nil)) (len_consA (len_consA len_nilA))).bo (nomark _)) (pw_orD (pt_cmpD (op_neD hr.units) ne_ok (pd_call G_divisor (hr.mono (by decide)) (by rfl) T.g_divisor T.f_divisor.kp T.b_divisor pass0 (pad_cons pd_int (pad_cons pd_int pad_nil)) (len_consA (len_consA len_nilA))).bo (pd_int).bo (nomark _)) (pw_orD (pw_andD (pt_cmpD (op_neD hr.units) ne_ok (pb_var (pv 6)) (pd_int).bo (nomark _)) (pw_and1D (pt_cmpD (op_neD hr.units) ne_ok (pd_call G_part (hr.mono (by decide)) (by rfl) T.g_part T.f_part.kp T.b_part pass0 (pad_cons (pd_var (pv 5)) (pad_cons (pd_var (pv 6)) pad_nil)) (len_consA (len_consA len_nilA))).bo (pd_call G__law_fr (hr.mono (by decide)) (by rfl) T.g__law_fr T.f__law_fr.kp T.b__law_fr pass0 (pad_cons (pd_var (pv 5)) (pad_cons (pd_var (pv 6)) pad_nil)) (len_consA (len_consA len_nilA))).bo (nomark _)))).t (pw_or1D (pt_cmpD (op_neD hr.units) ne_ok (pd_call G_part (hr.mono (by decide)) (by rfl) T.g_part T.f_part.kp T.b_part pass0 (pad_cons pd_int (pad_cons pd_int pad_nil)) (len_consA (len_consA len_nilA))).bo (pd_tup (pad_cons pd_int (pad_cons pd_int pad_nil))).bo (nomark _)))))).t (pss_oneD (ps_retD pd_bl)) pss_nilD)
  (pss_consD (ps_ifD (pw_orD (pt_cmpD (op_neD hr.units) ne_ok (pd_call G_plus (hr.mono (by decide)) (by rfl) T.g_plus T.f_plus.kp T.b_plus pass0 (pad_cons (pd_var (pv 2)) (pad_cons (pd_var (pv 3)) pad_nil)) (len_consA (len_consA len_nilA))).bo (pd_call G__law_add (hr.mono (by decide)) (by rfl) T.g__law_add T.f__law_add.kp T.b__law_add pass0 (pad_cons (pd_var (pv 2)) (pad_cons (pd_var (pv 3)) pad_nil)) (len_consA (len_consA len_nilA))).bo (nomark _)) (pw_orD (pt_cmpD (op_neD hr.units) ne_ok (pd_call G_minus (hr.mono (by decide)) (by rfl) T.g_minus T.f_minus.kp T.b_minus pass0 (pad_cons (pd_var (pv 2)) (pad_cons (pd_var (pv 3)) pad_nil)) (len_consA (len_consA len_nilA))).bo (pd_call G__law_sub (hr.mono (by decide)) (by rfl) T.g__law_sub T.f__law_sub.kp T.b__law_sub pass0 (pad_cons (pd_var (pv 2)) (pad_cons (pd_var (pv 3)) pad_nil)) (len_consA (len_consA len_nilA))).bo (nomark _)) (pw_or1D (pt_cmpD (op_neD hr.units) ne_ok (pd_call G_times (hr.mono (by decide)) (by rfl) T.g_times T.f_times.kp T.b_times pass0 (pad_cons (pd_var (pv 2)) (pad_cons (pd_var (pv 3)) pad_nil)) (len_consA (len_consA len_nilA))).bo (pd_call G__law_mul (hr.mono (by decide)) (by rfl) T.g__law_mul T.f__law_mul.kp T.b__law_mul pass0 (pad_cons (pd_var (pv 2)) (pad_cons (pd_var (pv 3)) pad_nil)) (len_consA (len_consA len_nilA))).bo (nomark _))))).t (pss_oneD (ps_retD pd_bl)) pss_nilD)
  (pss_consD (ps_ifD (pw_andD (pt_cmpD (op_neD hr.units) ne_ok (pd_ix (pb_var (pv 3)) (pd_int).bo (fun _ _ => rfl)).bo (pd_int).bo (nomark _)) (pw_and1D (pt_cmpD (op_neD hr.units) ne_ok (pd_call G_over (hr.mono (by decide)) (by rfl) T.g_over T.f_over.kp T.b_over pass0 (pad_cons (pd_var (pv 2)) (pad_cons (pd_var (pv 3)) pad_nil)) (len_consA (len_consA len_nilA))).bo (pd_call G__law_mul (hr.mono (by decide)) (by rfl) T.g__law_mul T.f__law_mul.kp T.b__law_mul pass0 (pad_cons (pd_var (pv 2)) (pad_cons (pd_call G__law_fr (hr.mono (by decide)) (by rfl) T.g__law_fr T.f__law_fr.kp T.b__law_fr pass0 (pad_cons (pd_ix (pb_var (pv 3)) (pd_int).bo (fun _ _ => rfl)) (pad_cons (pd_ix (pb_var (pv 3)) (pd_int).bo (fun _ _ => rfl)) pad_nil)) (len_consA (len_consA len_nilA))) pad_nil)) (len_consA (len_consA len_nilA))).bo (nomark _)))).t (pss_oneD (ps_retD pd_bl)) pss_nilD)
  (pss_consD (ps_ifD (pw_orD (pt_cmpD (op_neD hr.units) ne_ok (pd_call G_is_less (hr.mono (by decide)) (by rfl) T.g_is_less T.f_is_less.kp T.b_is_less pass0 (pad_cons (pd_var (pv 2)) (pad_cons (pd_var (pv 3)) pad_nil)) (len_consA (len_consA len_nilA))).bo (pd_cmp op_lt lt_ok (pd_call G__law_sign (hr.mono (by decide)) (by rfl) T.g__law_sign T.f__law_sign.kp T.b__law_sign pass0 (pad_cons (pd_var (pv 2)) (pad_cons (pd_var (pv 3)) pad_nil)) (len_consA (len_consA len_nilA))).bo (pd_int).bo (nomark _)).bo (nomark _)) (pw_orD (pt_cmpD op_notBl notBl_ok (pd_call G_is_less (hr.mono (by decide)) (by rfl) T.g_is_less T.f_is_less.kp T.b_is_less pass0 (pad_cons (pd_var (pv 2)) (pad_cons (pd_var (pv 2)) pad_nil)) (len_consA (len_consA len_nilA))).bo (pd_bl).bo (nomark _)) (pw_or1D (pt_cmpD op_notBl notBl_ok (pd_call G_is_less (hr.mono (by decide)) (by rfl) T.g_is_less T.f_is_less.kp T.b_is_less pass0 (pad_cons (pd_var (pv 2)) (pad_cons (pd_call G__law_add (hr.mono (by decide)) (by rfl) T.g__law_add T.f__law_add.kp T.b__law_add pass0 (pad_cons (pd_var (pv 2)) (pad_cons (pd_tup (pad_cons pd_int (pad_cons pd_int pad_nil))) pad_nil)) (len_consA (len_consA len_nilA))) pad_nil)) (len_consA (len_consA len_nilA))).bo (pd_bl).bo (nomark _))))).t (pss_oneD (ps_retD pd_bl)) pss_nilD)
  (pss_consD (ps_setLcD (i := 8) (own := [("k", 7)]) rfl sc_law.nd rfl rfl (sw_true rfl rfl rfl (by decide +kernel)) (pi_rng1D (by rfl) T.z_range (pad_cons (pd_call G__law_take (hr.mono (by decide)) (by rfl) T.g__law_take T.f__law_take.kp T.b__law_take pass0 (pad_cons (pd_var (pv 1)) (pad_cons pd_int pad_nil)) (len_consA (len_consA len_nilA))) pad_nil) (len_consA len_nilA)).bo (blkOk_by (N := N_law) (sc := defScope sF_law) (scope := { kind := .function, names := [(".0", .local), ("k", .local), ("_law_part", .globalImplicit), ("state", .free)], isGenerator := false, isCoroutine := false, more := [] }) (by decide +kernel)) (tgl_name (by decide)) (fun _ _ _ _ _ => (pg_name (i := 7) sc_law.nd rfl (.inl rfl))) (fun _ _ _ _ _ => pts_nilD) (fun _ _ _ _ _ => (pd_call G__law_part (hr.mono (by decide)) (by rfl) T.g__law_part T.f__law_part.kp T.b__law_part pass0 (pad_cons (pd_var (pv 1)) pad_nil) (len_consA len_nilA))))
  (pss_consD (ps_asgD (vs := [9, 10]) (pd_tup (pad_cons (pd_tup (pad_cons pd_int (pad_cons pd_int pad_nil))) (pad_cons pd_non pad_nil))) (pg_tupD rfl (pgs_consD (pg_nameD (i := 9) (by decide) sc_law.nd rfl (.inl rfl)) (pgs_consD (pg_nameD (i := 10) (by decide) sc_law.nd rfl (.inl rfl)) pgs_nilD))))
  (pss_consD (ps_forD (vs := [11]) PassesOwn.never rfl (pi_seqD (pd_var (pv 8))) (pg_nameD (i := 11) (by decide) sc_law.nd rfl (.inl rfl)) (pss_consD (ps_setD (i := 9) sc_law.nd rfl (.inl rfl) (pd_call G__law_add (hr.mono (by decide)) (by rfl) T.g__law_add T.f__law_add.kp T.b__law_add pass0 (pad_cons (pd_var (pv 9)) (pad_cons (pd_var (pv 11)) pad_nil)) (len_consA (len_consA len_nilA))))
  (pss_oneD (ps_setD (i := 10) sc_law.nd rfl (.inl rfl) (pd_if (pw_orD (pt_cmpD op_isN isN_ok (pb_var (pv 10)) (pd_non).bo (nomark _)) (pw_or1D (pt_cmpD op_lt lt_ok (pd_call G__law_sign (hr.mono (by decide)) (by rfl) T.g__law_sign T.f__law_sign.kp T.b__law_sign pass0 (pad_cons (pd_var (pv 11)) (pad_cons (pd_var (pv 10)) pad_nil)) (len_consA (len_consA len_nilA))).bo (pd_int).bo (nomark _)))).t (pd_var (pv 11)) (pd_var (pv 10)))))))
  (pss_consD (ps_ifD (pw_orD (pt_cmpD (op_neD hr.units) ne_ok (pd_call G_total (hr.mono (by decide)) (by rfl) T.g_total T.f_total.kp T.b_total pass0 (pad_cons (pf_lc (own := [("n", 11)]) rfl sc_law.nd (pi_seqB (pb_var (pv 8))) (blkOk_by (N := N_law) (sc := defScope sF_law) (scope := { kind := .function, names := [(".0", .local), ("n", .local)], isGenerator := false, isCoroutine := false, more := [] }) (by decide +kernel)) (tgl_name (by decide)) (fun _ _ _ _ _ => (pg_name (i := 11) sc_law.nd rfl (.inl rfl))) (fun _ _ _ _ _ => pts_nilD) (fun _ _ _ _ _ => (pd_var (pv 11)))).d pad_nil) (len_consA len_nilA)).bo (pb_var (pv 9)) (nomark _)) (pw_or1D (pt_cmpD (op_neD hr.units) ne_ok (pd_call G_least_of (hr.mono (by decide)) (by rfl) T.g_least_of T.f_least_of.kp T.b_least_of pass0 (pad_cons (pf_lc (own := [("n", 11)]) rfl sc_law.nd (pi_seqB (pb_var (pv 8))) (blkOk_by (N := N_law) (sc := defScope sF_law) (scope := { kind := .function, names := [(".0", .local), ("n", .local)], isGenerator := false, isCoroutine := false, more := [] }) (by decide +kernel)) (tgl_name (by decide)) (fun _ _ _ _ _ => (pg_name (i := 11) sc_law.nd rfl (.inl rfl))) (fun _ _ _ _ _ => pts_nilD) (fun _ _ _ _ _ => (pd_var (pv 11)))).d pad_nil) (len_consA len_nilA)).bo (pb_var (pv 10)) (nomark _)))).t (pss_oneD (ps_retD pd_bl)) pss_nilD)
  (pss_consD (ps_par2D (i := 12) (j := 13) rfl sc_law.nd rfl rfl (by decide) rfl rfl (pad_cons (pd_call G_whole_below (hr.mono (by decide)) (by rfl) T.g_whole_below T.f_whole_below.kp T.b_whole_below pass0 (pad_cons (pd_var (pv 2)) pad_nil) (len_consA len_nilA)) (pad_cons (pd_call G_whole_above (hr.mono (by decide)) (by rfl) T.g_whole_above T.f_whole_above.kp T.b_whole_above pass0 (pad_cons (pd_var (pv 2)) pad_nil) (len_consA len_nilA)) pad_nil)) rfl)
  (pss_consD (ps_ifD (pw_orD (pt_cmpD op_gt gt_ok (pd_bin op_mulD mul_ok (pb_var (pv 12)) (pd_ix (pb_var (pv 2)) (pd_int).bo (fun _ _ => rfl)).bo).bo (pd_ix (pb_var (pv 2)) (pd_int).bo (fun _ _ => rfl)).bo (nomark _)) (pw_orD (pt_cmpD op_le le_ok (pd_bin op_mulD mul_ok (pd_bin op_addD add_ok (pb_var (pv 12)) (pd_int).bo).bo (pd_ix (pb_var (pv 2)) (pd_int).bo (fun _ _ => rfl)).bo).bo (pd_ix (pb_var (pv 2)) (pd_int).bo (fun _ _ => rfl)).bo (nomark _)) (pw_orD (pt_cmpD op_lt lt_ok (pd_bin op_mulD mul_ok (pb_var (pv 13)) (pd_ix (pb_var (pv 2)) (pd_int).bo (fun _ _ => rfl)).bo).bo (pd_ix (pb_var (pv 2)) (pd_int).bo (fun _ _ => rfl)).bo (nomark _)) (pw_or1D (pt_cmpD op_ge ge_ok (pd_bin op_mulD mul_ok (pd_bin op_sub sub_ok (pb_var (pv 13)) (pd_int).bo).bo (pd_ix (pb_var (pv 2)) (pd_int).bo (fun _ _ => rfl)).bo).bo (pd_ix (pb_var (pv 2)) (pd_int).bo (fun _ _ => rfl)).bo (nomark _)))))).t (pss_oneD (ps_retD pd_bl)) pss_nilD)
  (pss_consD (ps_ifD (pw_orD (pt_cmpD (op_neD hr.units) ne_ok (pd_call G_is_whole_part (hr.mono (by decide)) (by rfl) T.g_is_whole_part T.f_is_whole_part.kp T.b_is_whole_part pass0 (pad_cons (pd_var (pv 2)) pad_nil) (len_consA len_nilA)).bo (pd_cmp (op_eqD hr.units) eq_ok (pd_ix (pb_var (pv 2)) (pd_int).bo (fun _ _ => rfl)).bo (pd_int).bo (nomark _)).bo (nomark _)) (pw_orD (pt_cmpD op_notBl notBl_ok (pd_call G_is_whole_part (hr.mono (by decide)) (by rfl) T.g_is_whole_part T.f_is_whole_part.kp T.b_is_whole_part pass0 (pad_cons (pd_tup (pad_cons (pd_var (pv 5)) (pad_cons pd_int pad_nil))) pad_nil) (len_consA len_nilA)).bo (pd_bl).bo (nomark _)) (pw_or1D (pt_cmpD op_notBl notBl_ok (pd_call G_is_whole_part (hr.mono (by decide)) (by rfl) T.g_is_whole_part T.f_is_whole_part.kp T.b_is_whole_part pass0 (pad_cons (pd_tup (pad_cons pd_int (pad_cons pd_int pad_nil))) pad_nil) (len_consA len_nilA)).bo (pd_bl).bo (nomark _))))).t (pss_oneD (ps_retD pd_bl)) pss_nilD)
  (pss_consD (ps_setD (i := 14) sc_law.nd rfl (.inl rfl) (pd_call G_scaled (hr.mono (by decide)) (by rfl) T.g_scaled T.f_scaled.kp T.b_scaled pass0 (pad_cons (pf_lc (own := [("n", 11)]) rfl sc_law.nd (pi_seqB (pb_var (pv 8))) (blkOk_by (N := N_law) (sc := defScope sF_law) (scope := { kind := .function, names := [(".0", .local), ("n", .local)], isGenerator := false, isCoroutine := false, more := [] }) (by decide +kernel)) (tgl_name (by decide)) (fun _ _ _ _ _ => (pg_name (i := 11) sc_law.nd rfl (.inl rfl))) (fun _ _ _ _ _ => pts_nilD) (fun _ _ _ _ _ => (pd_var (pv 11)))).d pad_nil) (len_consA len_nilA)))
  (pss_consD (ps_ifD (pw_orD (pt_cmpD (op_neD hr.units) ne_ok (pd_callB call_len_seq len_ok (by rfl) T.z_len (by decide +kernel) (pab_cons (pb_var (pv 14)) pab_nil)).bo (pd_callB call_len_seq len_ok (by rfl) T.z_len (by decide +kernel) (pab_cons (pb_var (pv 8)) pab_nil)).bo (nomark _)) (pw_or1D (pw_andD (pt_cmpD op_gt gt_ok (pd_callB call_len_seq len_ok (by rfl) T.z_len (by decide +kernel) (pab_cons (pb_var (pv 8)) pab_nil)).bo (pd_int).bo (nomark _)) (pw_andD (pt_cmpD op_gt gt_ok (pd_callB (cr_max rfl) max_ok (by rfl) T.z_max (by decide +kernel) (pab_cons (pf_lc (own := [("n", 11)]) rfl sc_law.nd (pi_seqB (pb_var (pv 8))) (blkOk_by (N := N_law) (sc := defScope sF_law) (scope := { kind := .function, names := [(".0", .local), ("n", .local), ("abs", .globalImplicit)], isGenerator := false, isCoroutine := false, more := [] }) (by decide +kernel)) (tgl_name (by decide)) (fun _ _ _ _ _ => (pg_name (i := 11) sc_law.nd rfl (.inl rfl))) (fun _ _ _ _ _ => pts_nilD) (fun _ _ _ _ _ => (pd_callB call_abs abs_ok (by rfl) T.z_abs (by decide +kernel) (pab_cons (pd_ix (pb_var (pv 11)) (pd_int).bo (fun _ _ => rfl)).bo pab_nil)))).bo pab_nil)).bo (pd_int).bo (nomark _)) (pw_and1D (pt_cmpD (op_neD hr.units) ne_ok (pd_call G__law_gcd_of (hr.mono (by decide)) (by rfl) T.g__law_gcd_of T.f__law_gcd_of.kp T.b__law_gcd_of pass0 (pad_cons (pd_var (pv 14)) pad_nil) (len_consA len_nilA)).bo (pd_int).bo (nomark _))))).t)).t (pss_oneD (ps_retD pd_bl)) pss_nilD)
  (pss_consD (ps_forD (vs := [7]) PassesOwn.never rfl (pi_rng1D (by rfl) T.z_range (pad_cons (pd_callB call_len_seq len_ok (by rfl) T.z_len (by decide +kernel) (pab_cons (pb_var (pv 8)) pab_nil)) pad_nil) (len_consA len_nilA)) (pg_nameD (i := 7) (by decide) sc_law.nd rfl (.inl rfl)) (pss_oneD (ps_forD (vs := [15]) PassesOwn.never rfl (pi_rng1D (by rfl) T.z_range (pad_cons (pd_callB call_len_seq len_ok (by rfl) T.z_len (by decide +kernel) (pab_cons (pb_var (pv 8)) pab_nil)) pad_nil) (len_consA len_nilA)) (pg_nameD (i := 15) (by decide) sc_law.nd rfl (.inl rfl)) (pss_oneD (ps_ifD (pw_orD (pt_cmpD (op_neD hr.units) ne_ok (pd_call G__law_mul (hr.mono (by decide)) (by rfl) T.g__law_mul T.f__law_mul.kp T.b__law_mul pass0 (pad_cons (pd_tup (pad_cons (pd_ix (pb_var (pv 14)) (pb_var (pv 7)) (fun _ _ => rfl)) (pad_cons pd_int pad_nil))) (pad_cons (pd_ix (pb_var (pv 8)) (pb_var (pv 15)) (fun _ _ => rfl)) pad_nil)) (len_consA (len_consA len_nilA))).bo (pd_call G__law_mul (hr.mono (by decide)) (by rfl) T.g__law_mul T.f__law_mul.kp T.b__law_mul pass0 (pad_cons (pd_tup (pad_cons (pd_ix (pb_var (pv 14)) (pb_var (pv 15)) (fun _ _ => rfl)) (pad_cons pd_int pad_nil))) (pad_cons (pd_ix (pb_var (pv 8)) (pb_var (pv 7)) (fun _ _ => rfl)) pad_nil)) (len_consA (len_consA len_nilA))).bo (nomark _)) (pw_orD (pt_cmpD (op_neD hr.units) ne_ok (pd_cmp op_gt gt_ok (pd_ix (pb_var (pv 14)) (pb_var (pv 7)) (fun _ _ => rfl)).bo (pd_int).bo (nomark _)).bo (pd_cmp op_gt gt_ok (pd_ix (pd_ix (pb_var (pv 8)) (pb_var (pv 7)) (fun _ _ => rfl)).bo (pd_int).bo (fun _ _ => rfl)).bo (pd_int).bo (nomark _)).bo (nomark _)) (pw_or1D (pt_cmpD (op_neD hr.units) ne_ok (pd_cmp op_lt lt_ok (pd_ix (pb_var (pv 14)) (pb_var (pv 7)) (fun _ _ => rfl)).bo (pd_int).bo (nomark _)).bo (pd_cmp op_lt lt_ok (pd_ix (pd_ix (pb_var (pv 8)) (pb_var (pv 7)) (fun _ _ => rfl)).bo (pd_int).bo (fun _ _ => rfl)).bo (pd_int).bo (nomark _)).bo (nomark _))))).t (pss_oneD (ps_retD pd_bl)) pss_nilD)))))
  (pss_consD (ps_setLcD (i := 16) (own := [("n", 11)]) rfl sc_law.nd rfl rfl (sw_true rfl rfl rfl (by decide +kernel)) (pi_seqB (pb_var (pv 8))) (blkOk_by (N := N_law) (sc := defScope sF_law) (scope := { kind := .function, names := [(".0", .local), ("n", .local), ("_law_take", .globalImplicit), ("state", .free)], isGenerator := false, isCoroutine := false, more := [] }) (by decide +kernel)) (tgl_name (by decide)) (fun _ _ _ _ _ => (pg_name (i := 11) sc_law.nd rfl (.inl rfl))) (fun _ _ _ _ _ => pts_nilD) (fun _ _ _ _ _ => (pd_bin op_sub sub_ok (pd_call G__law_take (hr.mono (by decide)) (by rfl) T.g__law_take T.f__law_take.kp T.b__law_take pass0 (pad_cons (pd_var (pv 1)) (pad_cons pd_int pad_nil)) (len_consA (len_consA len_nilA))).bo (pd_int).bo)))
  (pss_consD (ps_setD (i := 17) sc_law.nd rfl (.inl rfl) (pd_tup (pad_cons pd_int (pad_cons pd_int pad_nil))))
  (pss_consD (ps_forD (vs := [7]) PassesOwn.never rfl (pi_rng1D (by rfl) T.z_range (pad_cons (pd_callB call_len_seq len_ok (by rfl) T.z_len (by decide +kernel) (pab_cons (pb_var (pv 8)) pab_nil)) pad_nil) (len_consA len_nilA)) (pg_nameD (i := 7) (by decide) sc_law.nd rfl (.inl rfl)) (pss_oneD (ps_setD (i := 17) sc_law.nd rfl (.inl rfl) (pd_call G__law_add (hr.mono (by decide)) (by rfl) T.g__law_add T.f__law_add.kp T.b__law_add pass0 (pad_cons (pd_var (pv 17)) (pad_cons (pd_call G__law_mul (hr.mono (by decide)) (by rfl) T.g__law_mul T.f__law_mul.kp T.b__law_mul pass0 (pad_cons (pd_tup (pad_cons (pd_ix (pb_var (pv 16)) (pb_var (pv 7)) (fun _ _ => rfl)) (pad_cons pd_int pad_nil))) (pad_cons (pd_ix (pb_var (pv 8)) (pb_var (pv 7)) (fun _ _ => rfl)) pad_nil)) (len_consA (len_consA len_nilA))) pad_nil)) (len_consA (len_consA len_nilA))))))
  (pss_consD (ps_ifD (pt_cmpD (op_neD hr.units) ne_ok (pd_call G_dot (hr.mono (by decide)) (by rfl) T.g_dot T.f_dot.kp T.b_dot pass0 (pad_cons (pf_lc (own := [("n", 11)]) rfl sc_law.nd (pi_seqB (pb_var (pv 16))) (blkOk_by (N := N_law) (sc := defScope sF_law) (scope := { kind := .function, names := [(".0", .local), ("n", .local)], isGenerator := false, isCoroutine := false, more := [] }) (by decide +kernel)) (tgl_name (by decide)) (fun _ _ _ _ _ => (pg_name (i := 11) sc_law.nd rfl (.inl rfl))) (fun _ _ _ _ _ => pts_nilD) (fun _ _ _ _ _ => (pd_var (pv 11)))).d (pad_cons (pf_lc (own := [("n", 11)]) rfl sc_law.nd (pi_seqB (pb_var (pv 8))) (blkOk_by (N := N_law) (sc := defScope sF_law) (scope := { kind := .function, names := [(".0", .local), ("n", .local)], isGenerator := false, isCoroutine := false, more := [] }) (by decide +kernel)) (tgl_name (by decide)) (fun _ _ _ _ _ => (pg_name (i := 11) sc_law.nd rfl (.inl rfl))) (fun _ _ _ _ _ => pts_nilD) (fun _ _ _ _ _ => (pd_var (pv 11)))).d pad_nil)) (len_consA (len_consA len_nilA))).bo (pb_var (pv 17)) (nomark _)) (pss_oneD (ps_retD pd_bl)) pss_nilD)
  (pss_consD (ps_forD (vs := [18]) PassesOwn.never rfl (pi_seqD (pf_lst (pad_cons (pd_var (pv 2)) (pad_cons (pf_callTy call_list_of list_ok (by rfl) T.z_list (by decide +kernel) (pab_cons (pb_var (pv 2)) pab_nil)).d (pad_cons (pd_bin op_addD add_ok (pb_var (pv 2)) (pd_tup (pad_cons pd_int pad_nil)).bo) (pad_cons (pd_tup (pad_cons (pd_ix (pb_var (pv 2)) (pd_int).bo (fun _ _ => rfl)) (pad_cons (pd_bin op_sub sub_ok (pd_int).bo (pd_ix (pb_var (pv 2)) (pd_int).bo (fun _ _ => rfl)).bo) pad_nil))) (pad_cons (pd_tup (pad_cons (pd_bin op_addD add_ok (pd_bin op_mulD mul_ok (pd_int).bo (pd_ix (pb_var (pv 2)) (pd_int).bo (fun _ _ => rfl)).bo).bo (pd_int).bo) (pad_cons pd_int pad_nil))) (pad_cons (pd_tup (pad_cons (pd_var (pv 5)) (pad_cons pd_int pad_nil))) (pad_cons (pd_tup (pad_cons pd_bl (pad_cons pd_int pad_nil))) (pad_cons (pd_tup (pad_cons pd_int (pad_cons pd_bl pad_nil))) (pad_cons (pd_tup (pad_cons pd_int (pad_cons pd_int pad_nil))) (pad_cons (pd_tup (pad_cons pd_int (pad_cons pd_int pad_nil))) (pad_cons pd_non (pad_cons pd_int (pad_cons (pd_tup (pad_cons pd_str (pad_cons pd_int pad_nil))) (pad_cons (pd_tup (pad_cons (pd_var (pv 5)) (pad_cons pd_int pad_nil))) (pad_cons (pd_tup pad_nil) pad_nil)))))))))))))))).d) (pg_nameD (i := 18) (by decide) sc_law.nd rfl (.inl rfl)) (pss_oneD (ps_ifD (pt_cmpD (op_neD hr.units) ne_ok (pd_call G_is_part (hr.mono (by decide)) (by rfl) T.g_is_part T.f_is_part.kp T.b_is_part pass0 (pad_cons (pd_var (pv 18)) pad_nil) (len_consA len_nilA)).bo (pd_call G__law_is (hr.mono (by decide)) (by rfl) T.g__law_is T.f__law_is.kp T.b__law_is pass0 (pad_cons (pd_var (pv 18)) pad_nil) (len_consA len_nilA)).bo (nomark _)) (pss_oneD (ps_retD pd_bl)) pss_nilD)))
  (pss_consD (ps_setD (i := 19) sc_law.nd rfl (.inl rfl) (pd_callTy call_tuple_of tuple_ok (by rfl) T.z_tuple (by decide +kernel) (pab_cons (pb_var (pv 8)) pab_nil)))
  (pss_consD (ps_forD (vs := [18]) PassesOwn.never rfl (pi_seqD (pf_lst (pad_cons (pd_var (pv 19)) (pad_cons (pf_callTy call_list_of list_ok (by rfl) T.z_list (by decide +kernel) (pab_cons (pb_var (pv 19)) pab_nil)).d (pad_cons (pd_bin op_addD add_ok (pb_var (pv 19)) (pd_tup (pad_cons pd_non pad_nil)).bo) (pad_cons (pd_bin op_addD add_ok (pb_var (pv 19)) (pd_tup (pad_cons (pd_tup (pad_cons pd_int (pad_cons pd_int pad_nil))) pad_nil)).bo) (pad_cons (pd_bin op_addD add_ok (pb_var (pv 19)) (pd_tup (pad_cons (pd_var (pv 2)) pad_nil)).bo) (pad_cons pd_non (pad_cons (pd_tup pad_nil) (pad_cons (pd_tup (pad_cons (pd_var (pv 2)) (pad_cons (pd_var (pv 3)) (pad_cons (pd_var (pv 4)) pad_nil)))) pad_nil))))))))).d) (pg_nameD (i := 18) (by decide) sc_law.nd rfl (.inl rfl)) (pss_oneD (ps_forD (vs := [20]) PassesOwn.never rfl (pi_seqD (pd_tup (pad_cons (pd_callB call_len_seq len_ok (by rfl) T.z_len (by decide +kernel) (pab_cons (pb_var (pv 19)) pab_nil)) (pad_cons pd_int pad_nil)))) (pg_nameD (i := 20) (by decide) sc_law.nd rfl (.inl rfl)) (pss_oneD (ps_ifD (pt_cmpD (op_neD hr.units) ne_ok (pd_call G_are_parts (hr.mono (by decide)) (by rfl) T.g_are_parts T.f_are_parts.kp T.b_are_parts pass0 (pad_cons (pd_var (pv 18)) (pad_cons (pd_var (pv 20)) pad_nil)) (len_consA (len_consA len_nilA))).bo (pd_and (pd_isi (pb_var (pv 18)) (by rfl) T.z_isinstance (by decide +kernel) (by rfl) T.z_tuple (by decide +kernel)) (pd_and (pd_cmp (op_eqD hr.units) eq_ok (pd_callB call_len_seq len_ok (by rfl) T.z_len (by decide +kernel) (pab_cons (pb_var (pv 18)) pab_nil)).bo (pb_var (pv 20)) (nomark _)) (pd_one (pd_cmp (op_eqD hr.units) eq_ok (pd_callB call_len_seq len_ok (by rfl) T.z_len (by decide +kernel) (pab_cons (pf_lc (own := [("n", 11)]) rfl sc_law.nd (pi_seqB (pb_var (pv 18))) (blkOk_by (N := N_law) (sc := defScope sF_law) (scope := { kind := .function, names := [(".0", .local), ("n", .local), ("_law_is", .globalImplicit)], isGenerator := false, isCoroutine := false, more := [] }) (by decide +kernel)) (tgl_name (by decide)) (fun _ _ _ _ _ => (pg_name (i := 11) sc_law.nd rfl (.inl rfl))) (fun _ _ _ _ _ => (pts_oneD (pt_notD (pt_of (pd_call G__law_is (hr.mono (by decide)) (by rfl) T.g__law_is T.f__law_is.kp T.b__law_is pass0 (pad_cons (pd_var (pv 11)) pad_nil) (len_consA len_nilA)))))) (fun _ _ _ _ _ => (pd_var (pv 11)))).bo pab_nil)).bo (pd_int).bo (nomark _))))).bo (nomark _)) (pss_oneD (ps_retD pd_bl)) pss_nilD)))))
  (pss_oneD (ps_retD pd_bl)))))))))))))))))))))))))
end K10

set_option Elab.async false
set_option linter.all false
set_option maxRecDepth 100000
set_option maxHeartbeats 4000000
namespace K10
open PySem PySem.Spec PyProof.Rows L2 DL
/-! ### the law's state, by hand -/
def absI (n : Int) : Int := if n < 0 then -n else n
def cells0 (ns : List Int) : List Int := if (ns.map absI).length = 0 then [0] else ns.map absI
def spState (K : PySem.W.Frag) : Sp := fun vs H Q _ => ∃ (a : Addr) (ns : List Int), vs = [.ref a] ∧ SqL K H a (ns.map V.int) ∧ ns.length ≤ 63 ∧
  ∀ (H' : Hp) (a0 a1 : Addr), Same H H' → H a0 = none → H a1 = none → a0 ≠ a1 → H' a0 = some (.lst [.int 0, .ref a1]) → H' a1 = some (.lst ((cells0 ns).map V.int)) → Q (.ref a0) H'
theorem cut63 (xs : List V) (h : xs.length ≤ 63) : cutV xs none (some 63) = xs := by
  unfold cutV
  rw [HT.sIx_none, show HT.sIx xs.length xs.length (some 63) = min 63 xs.length from HT.sIx_nat _ _ 63, List.drop_zero, Nat.min_eq_right h, Nat.sub_zero, List.take_length]
section
variable {P : Program} {w : World} {K : PySem.W.Frag} {mg : Str → Option Value} {base : Heap}
theorem ok_state (T : Tx K mg) : FnOk P w K mg base CX0 1 T.a__law_state T.d__law_state ["script"] (spState K) := by
  refine T.f__law_state.ok sc__law_state (fun vs H Q E h => ?_) (fun cdv A outer s H vs Q E hr h => ?_)
  · obtain ⟨a, ns, rfl, _⟩ := h
    rfl
  · obtain ⟨a, ns, rfl, hS, hlen, k⟩ := h
    refine ⟨_, pss_cons (ps_setLc (i := 1) (own := [("cell", 2)]) (g := gName 2) (tt := tYes) rfl sc__law_state.nd rfl rfl (sw_true rfl rfl rfl (by decide +kernel)) (pi_list (pe_slice sl_list (pv 0) po_none (po_some pe_int)))
        (blkOk_by (N := N__law_state) (sc := defScope sF__law_state) (by decide +kernel)) (fun _ _ _ _ _ => pg_name (i := 2) sc__law_state.nd rfl (Or.inl rfl)) (fun _ _ _ _ _ => pts_nil)
        (fun _ _ _ _ _ => pe_callB call_abs (by rfl) T.z_abs (by decide +kernel) (pa_cons (pv 2) pa_nil)))
      (pss_cons (ps_if (pt_cmpR op_eq (pe_callB call_len_seq (by rfl) T.z_len PySem.boot_len (pa_cons (pv 1) pa_nil)) pe_int (nomark _)) (pss_one (ps_set (i := 1) sc__law_state.nd rfl (.inl rfl) (pe_lst (pa_cons pe_int pa_nil)))) pss_nil)
      (pss_one (ps_ret (pe_lst (pa_cons pe_int (pa_cons (pv 1) pa_nil)))))), ?_⟩
    refine ⟨.ref a, rfl, 63, rfl, a, ns.map V.int, rfl, hS, fun c hc => ?_⟩
    have hx : (ns.map V.int).length ≤ 63 := by rw [List.length_map]; exact hlen
    rw [cut63 _ hx]
    have s1 : Same H (upd H c (.lst (ns.map V.int))) := Same.upd hc
    refine ⟨c, rfl, ⟨_, SqL.of upd_same⟩, fun L hL => ?_⟩
    have ncL : c ≠ L := ne_of_none upd_same hL
    have hL0 : H L = none := s1.free hL
    refine lc_list (K := K) (a := c) (xs := ns.map V.int) (fun i H' => Same H H' ∧ H' c = some (.lst (ns.map V.int)) ∧ H' L = some (.lst (((ns.map absI).take i).map V.int)))
      ⟨s1.trans (Same.upd hL), by rw [upd_ne ncL, upd_same], by rw [upd_same]; rfl⟩ (fun i H' _ hh => SqL.of hh.2.1) (fun i x H' hi ⟨e1, e2, e3⟩ => ?_) (fun H' ⟨e1, e2, e3⟩ => ?_)
    · have hi63 : i < ns.length := by
        have q := (List.getElem?_eq_some_iff.mp hi).1
        rw [List.length_map] at q
        exact q
      rw [List.getElem?_map, List.getElem?_eq_getElem hi63] at hi
      cases hi
      refine ⟨rfl, .int ns[i], rfl, ns[i], rfl, _, e3, ?_, ?_⟩
      · rw [List.length_map, List.length_take, List.length_map]
        exact Nat.lt_of_le_of_lt (Nat.min_le_left _ _) (Nat.lt_of_lt_of_le hi63 (Nat.le_trans hlen (by rw [sizeLine_eq]; decide)))
      · refine ⟨fun b o q => ?_, by rw [upd_ne ncL]; exact e2, ?_⟩
        · rw [upd_ne (ne_of_none q hL0)]
          exact e1 b o q
        · rw [upd_same, List.take_add_one, List.getElem?_map, List.getElem?_eq_getElem hi63, List.map_append]
          rfl
    · rw [show List.take (ns.map V.int).length (ns.map absI) = ns.map absI from List.take_of_length_le (by rw [List.length_map, List.length_map]; exact Nat.le_refl _)] at e3
      -- if len(cells) == 0
      refine ⟨.ref L, rfl, L, _, rfl, .inl (SqL.of e3), rfl, _, rfl, ite2 (fun q => ?_) (fun q => ?_)⟩
      · have q1 : (((ns.map absI).map V.int).length : Int) = 0 := V.int.inj (of_decide_eq_true q)
        have q0 : (ns.map absI).length = 0 := by
          rw [List.length_map] at q1
          omega
        refine ⟨by rw [sizeLine_eq]; decide, fun M hM => ?_⟩
        have nLM : L ≠ M := ne_of_none e3 hM
        refine ⟨.ref M, rfl, by rw [sizeLine_eq]; show 2 ≤ 16777216; decide, fun R hR => ?_⟩
        have nMR : M ≠ R := ne_of_none upd_same hR
        have hM0 : H M = none := e1.free hM
        have hR1 : H' R = none := (Same.upd hM).free hR
        refine k _ R M ((e1.trans (Same.upd hM)).trans (Same.upd hR)) (e1.free hR1) hM0 nMR.symm upd_same ?_
        rw [upd_ne nMR, upd_same]
        unfold cells0
        rw [if_pos q0]
        rfl
      · have q0 : ¬ (ns.map absI).length = 0 := fun z => q (decide_eq_true (by rw [List.length_map (f := V.int), z]; rfl))
        refine ⟨.ref L, rfl, by rw [sizeLine_eq]; show 2 ≤ 16777216; decide, fun R hR => ?_⟩
        have nLR : L ≠ R := ne_of_none e3 hR
        refine k _ R L (e1.trans (Same.upd hR)) (e1.free hR) hL0 nLR.symm upd_same ?_
        rw [upd_ne nLR]
        unfold cells0
        rw [if_neg q0]
        exact e3
theorem takeF_form {ds : List D} {s : LS} (h : takeF ds s ≠ .bad) : ∃ most, ds = [.stt, .int most] := by
  unfold takeF at h
  split at h
  · exact ⟨_, rfl⟩
  · exact absurd rfl h
theorem st_ext {p : Addr × Addr} {H G : Hp} {s s' : LS} {q : Addr} {o : HO} (st : StOk (some p) H G s) (sub : Same G H) (hq : q = p.1 ∨ q = p.2) : Ext (some p) H G (upd H q o) G ∧ Same G (upd H q o) := by
  obtain ⟨n01, g0, g1, h0, h1⟩ := st p rfl
  have gq : G q = none := by
    rcases hq with e | e
    · rw [e]; exact g0
    · rw [e]; exact g1
  refine ⟨⟨.refl G, fun a u e n => ?_, fun _ _ => rfl, fun a e => ?_⟩, fun a u e => ?_⟩
  · rw [upd_ne fun z => ?_]
    · exact e
    · obtain ⟨n1, n2⟩ := n p rfl
      rcases hq with e2 | e2
      · exact n1 (z.trans e2)
      · exact n2 (z.trans e2)
  · by_cases z : a = q
    · rw [z, upd_same]
      exact Option.some_ne_none _
    · rw [upd_ne z]
      exact e
  · rw [upd_ne (fun z => by rw [z, gq] at e; cases e)]
    exact sub a u e
theorem ok_take (T : Tx K mg) : FnOk P w K mg base CX0 1 T.a__law_take T.d__law_take ["state", "most"] (spD K mg 2 takeF) := by
  refine T.f__law_take.ok sc__law_take (fun vs H Q E h => h.1) (fun cdv A outer s H vs Q E hr h => ?_)
  obtain ⟨hv, AA, G, ds, s0, sub, st, r, o⟩ := h
  obtain ⟨most, rfl⟩ := takeF_form (ds := ds) (s := s0) fun z => by
    rw [z] at o
    exact o
  have o : (match takeM most s0 with
    | .ok d s' => ∀ v H' G', Ext AA H G H' G' → Same G' H' → StOk AA H' G' s' → Rep K AA G' v d → Q v H'
    | .exc x s' => ∀ H' G' cls oe, Ext AA H G H' G' → Same G' H' → StOk AA H' G' s' → ExAt mg H' cls oe x → E cls oe H'
    | .bad => False) := o
  obtain ⟨x, xr, rfl, ⟨p, rfl, rfl⟩, y, yr, rfl, ry, rz⟩ := r
  cases (show yr = [] from rz)
  cases (show y = _ from ry)
  obtain ⟨n01, g0, g1, h0, h1⟩ := st p rfl
  refine ⟨_, pss_cons (ps_if (pt_cmpR op_lt (pv 1) pe_int (nomark _)) (pss_one (ps_ret pe_int)) pss_nil)
    (pss_cons (ps_set (i := 2) sc__law_take.nd rfl (.inl rfl) (pe_ix ix_list (pv 0) pe_int (fun _ _ => rfl)))
    (pss_cons (ps_set (i := 3) sc__law_take.nd rfl (.inl rfl) (pe_op op_mod (pe_callTy call_int1 (by rfl) T.z_int (by decide +kernel) (pa_cons (pe_ix ix_list (pv 0) pe_int (fun _ _ => rfl)) pa_nil)) (pe_callB call_len_seq (by rfl) T.z_len PySem.boot_len (pa_cons (pv 2) pa_nil))))
    (pss_cons (ps_set (i := 4) sc__law_take.nd rfl (.inl rfl) (pe_ix ix_list (pv 2) (pv 3) (fun _ _ => rfl)))
    (pss_cons (ps_if (pt_cmpR op_ge (pv 4) pe_int (nomark _)) (pss_cons (ps_asg (pe_op op_fdivW (pv 4) (pv 1)) (pg_sub (pv 2) (pv 3) set_list)) (pss_one (ps_ret (pe_op op_mod (pe_callTy call_int1 (by rfl) T.z_int (by decide +kernel) (pa_cons (pv 4) pa_nil)) (pv 1))))) pss_nil)
    (pss_cons (ps_asg (pe_op op_add (pe_ix ix_list (pv 0) pe_int (fun _ _ => rfl)) pe_int) (pg_sub (pv 0) pe_int set_list))
    (pss_cons (ps_set (i := 5) sc__law_take.nd rfl (.inl rfl) (pe_op op_mod (pe_callTy call_int1 (by rfl) T.z_int (by decide +kernel) (pa_cons (pe_op op_add (pe_op op_mul (pv 4) pe_int) (pe_op op_mul (pe_ix ix_list (pv 0) pe_int (fun _ _ => rfl)) pe_int)) pa_nil)) pe_int))
    (pss_cons (ps_set (i := 5) sc__law_take.nd rfl (.inl rfl) (pe_op op_mod (pe_callTy call_int1 (by rfl) T.z_int (by decide +kernel) (pa_cons (pe_op op_add (pe_op op_mul (pv 5) pe_int) (pe_op op_mul (pe_ix ix_list (pv 0) pe_int (fun _ _ => rfl)) pe_int)) pa_nil)) pe_int))
    (pss_one (ps_ret (pe_op op_mod (pe_callTy call_int1 (by rfl) T.z_int (by decide +kernel) (pa_cons (pe_op op_fdivW (pv 5) pe_int) pa_nil)) (pv 1))))))))))), ?_⟩
  unfold takeM at o
  refine ⟨.int most, rfl, most, 2, rfl, rfl, _, rfl, ite2 (fun q => ?_) (fun q => ?_)⟩
  · have q1 : most < 2 := of_decide_eq_true q
    rw [if_pos q1] at o
    exact o _ H G .refl sub st rfl
  · have q1 : ¬ most < 2 := fun z => q (decide_eq_true z)
    rw [if_neg q1] at o
    by_cases q2 : s0.cells.length = 0 ∨ ¬ most.natAbs < 2 ^ 8000
    · rw [if_pos q2] at o
      exact o.elim
    rw [if_neg q2] at o
    have c0 : s0.cells.length ≠ 0 := fun z => q2 (.inl z)
    have m8 : most.natAbs < 2 ^ 8000 := Classical.byContradiction fun z => q2 (.inr z)
    have dm : ∀ i : Int, CDivW i most := fun i => wide_div (by omega) m8 (by decide) (by decide)
    -- the place
    have hk0 : 0 ≤ s0.pos % (s0.cells.length : Int) := Int.emod_nonneg _ (by omega)
    have hk1 : s0.pos % (s0.cells.length : Int) < (s0.cells.length : Int) := Int.emod_lt_of_pos _ (by omega)
    obtain ⟨j, hj⟩ : ∃ j : Nat, s0.pos % (s0.cells.length : Int) = (j : Int) := ⟨_, (Int.toNat_of_nonneg hk0).symm⟩
    have hjl : j < s0.cells.length := by omega
    have hjn : (s0.pos % (s0.cells.length : Int)).toNat = j := by omega
    have hc : s0.cells.getD j 0 = s0.cells[j] := by
      rw [List.getD_eq_getElem?_getD, List.getElem?_eq_getElem hjl]
      rfl
    simp only [hjn, hc] at o
    have at0 : ∀ i : Int, atI [V.int i, V.ref p.2] 0 = some (.int i) := fun i => atI_nat (j := 0) rfl
    have at1 : atI [V.int s0.pos, V.ref p.2] 1 = some (.ref p.2) := atI_nat (j := 1) rfl
    have atc : atI (s0.cells.map V.int) (s0.pos % (s0.cells.length : Int)) = some (.int s0.cells[j]) := by
      rw [hj]
      exact atI_nat (by rw [List.getElem?_map, List.getElem?_eq_getElem hjl]; rfl)
    have hlm : (((s0.cells.map V.int).length : Nat) : Int) = (s0.cells.length : Int) := by rw [List.length_map]
    refine ⟨.ref p.1, rfl, p.1, _, 1, _, rfl, rfl, SqL.of h0, at1, ?_⟩
    refine ⟨.ref p.1, rfl, p.1, _, 0, _, rfl, rfl, SqL.of h0, at0 _, .inl ⟨_, rfl, .ref p.2, rfl, p.2, _, rfl, .inl (SqL.of h1), _, _, rfl, rfl, by rw [hlm]; omega, ?_⟩⟩
    rw [hlm]
    refine ⟨.ref p.2, rfl, .int (s0.pos % (s0.cells.length : Int)), rfl, p.2, _, _, _, rfl, rfl, SqL.of h1, atc, ?_⟩
    refine ⟨.int s0.cells[j], rfl, _, _, rfl, rfl, _, rfl, ite2 (fun w => ?_) (fun w => ?_)⟩
    · have w1 : (1000000000000000000 : Int) ≤ s0.cells[j] := of_decide_eq_true w
      rw [if_pos w1] at o
      refine ⟨.int s0.cells[j], rfl, .int most, rfl, _, _, rfl, rfl, dm _, .ref p.2, rfl, .int (s0.pos % (s0.cells.length : Int)), rfl, p.2, _, _, j, rfl, rfl, h1, ?_, ?_⟩
      · rw [hj, List.length_map]
        unfold ixN
        rw [if_pos (by omega), if_pos (by omega)]
        rfl
      · refine ⟨.int s0.cells[j], rfl, .inl ⟨_, rfl, .int most, rfl, _, _, rfl, rfl, by omega, ?_⟩⟩
        have es : (s0.cells.map V.int).set j (.int (s0.cells[j] / most)) = (s0.cells.set j (s0.cells[j] / most)).map V.int := by rw [List.map_set]
        rw [es]
        obtain ⟨e1, e2⟩ := st_ext (s' := s0) (o := .lst ((s0.cells.set j (s0.cells[j] / most)).map V.int)) st sub (.inr rfl)
        refine o _ _ G e1 e2 (fun q z => ?_) rfl
        cases z
        exact ⟨n01, g0, g1, by rw [upd_ne n01]; exact h0, upd_same⟩
    · have w1 : ¬ (1000000000000000000 : Int) ≤ s0.cells[j] := fun z => w (decide_eq_true z)
      rw [if_neg w1] at o
      refine ⟨.ref p.1, rfl, p.1, _, 0, _, rfl, rfl, SqL.of h0, at0 _, s0.pos, 1, rfl, rfl, .ref p.1, rfl, p.1, _, _, 0, rfl, rfl, h0, rfl, ?_⟩
      have hp2 : upd H p.1 (.lst [.int (s0.pos + 1), .ref p.2]) p.1 = some (.lst [.int (s0.pos + 1), .ref p.2]) := upd_same
      have sm : ∀ {a b : Int}, (-(2 ^ 64) < b ∧ b < 2 ^ 64) → CMul a b := fun hb => .inr hb
      refine ⟨.int s0.cells[j], rfl, _, _, rfl, rfl, sm (by decide), .ref p.1, rfl, p.1, _, 0, _, rfl, rfl, SqL.of hp2, at0 _, _, _, rfl, rfl, sm (by decide), _, _, rfl, rfl, .inl ⟨_, rfl, _, _, rfl, rfl, (by show (0 : Int) < 2147483647; decide), ?_⟩⟩
      refine ⟨_, rfl, _, _, rfl, rfl, sm (by decide), .ref p.1, rfl, p.1, _, 0, _, rfl, rfl, SqL.of hp2, at0 _, _, _, rfl, rfl, sm (by decide), _, _, rfl, rfl, .inl ⟨_, rfl, _, _, rfl, rfl, (by show (0 : Int) < 1000000007; decide), ?_⟩⟩
      refine ⟨_, rfl, _, _, rfl, rfl, wide_div (b := 3) (by decide) (by decide) (by decide) (by decide), .inl ⟨_, rfl, .int most, rfl, _, _, rfl, rfl, by omega, ?_⟩⟩
      obtain ⟨e1, e2⟩ := st_ext (s' := s0) (o := .lst [.int (s0.pos + 1), .ref p.2]) st sub (.inl rfl)
      refine o _ _ G e1 e2 (fun q z => ?_) rfl
      cases z
      exact ⟨n01, g0, g1, upd_same, by rw [upd_ne n01.symm]; exact h1⟩
end
end K10

set_option Elab.async false
set_option linter.all false
set_option maxRecDepth 100000
set_option maxHeartbeats 4000000
namespace K10
open PySem PySem.Spec PyProof.Rows L2 DL
/-! ### the greatest common divisor -/
/-- turns of Euclid's way -/
def stp : Nat → Nat → Nat
  | _, 0 => 0
  | a, b + 1 => stp (b + 1) (a % (b + 1)) + 1
termination_by _ b => b
decreasing_by exact Nat.mod_lt _ (Nat.succ_pos b)
theorem stp_zero (a : Nat) : stp a 0 = 0 := by unfold stp; rfl
theorem stp_pos {a b : Nat} (h : 0 < b) : stp a b = stp b (a % b) + 1 := by
  cases b with
  | zero => exact absurd h (Nat.lt_irrefl 0)
  | succ b => rw [stp]
theorem stp_le : ∀ (k a b : Nat), b < 2 ^ k → stp a b ≤ 2 * k
  | 0, a, b, h => by
    have e : b = 0 := by
      rw [Nat.pow_zero] at h
      omega
    subst e
    rw [stp_zero]
    exact Nat.le_refl 0
  | k + 1, a, b, h => by
    by_cases hb : 0 < b
    · rw [stp_pos hb]
      by_cases hr : 0 < a % b
      · rw [stp_pos hr]
        have h1 : a % b < b := Nat.mod_lt _ hb
        have h2 : b % (a % b) < a % b := Nat.mod_lt _ hr
        have h3 : 2 * (b % (a % b)) < b := by
          by_cases hc : 2 * (a % b) ≤ b
          · omega
          · have e : b % (a % b) = b - a % b := by
              rw [Nat.mod_eq_sub_mod (by omega), Nat.mod_eq_of_lt (by omega)]
            omega
        have h4 : b % (a % b) < 2 ^ k := by
          rw [Nat.pow_succ] at h
          omega
        have := stp_le k (a % b) (b % (a % b)) h4
        omega
      · have e : a % b = 0 := by omega
        rw [e, stp_zero]
        omega
    · have e : b = 0 := by omega
      subst e
      rw [stp_zero]
      omega
theorem fuel_eq : fuel = 2 ^ 500000 := by unfold fuel; rfl
abbrev tGcd : TV := eT (eBin neD (eBor 1) (eC (.int 0)))
theorem loop_gcd : ∀ (n a b : Nat), b < n → whileN tGcd (sPar2 0 1 (aCons (eVar 1) (aCons (eBin modD (eBor 0) (eBor 1)) aNil))) n [.sh (.int a), .sh (.int b)] = M.ret (.nx [.sh (.int (Nat.gcd a b : Nat)), .sh (.int 0)])
  | 0, a, b, h => absurd h (Nat.not_lt_zero b)
  | n + 1, a, b, h => by
    unfold whileN
    by_cases hb : b = 0
    · subst hb
      simp
    · have h1 : (0 : Int) < (b : Int) := by omega
      have h2 : ((a : Int) % (b : Int)) = ((a % b : Nat) : Int) := by omega
      have h3 : a % b < n := by
        have := Nat.mod_lt a (by omega : 0 < b)
        omega
      have ih := loop_gcd n b (a % b) h3
      have hg : Nat.gcd b (a % b) = Nat.gcd a b := by rw [Nat.gcd_comm b (a % b), ← Nat.gcd_rec b a, Nat.gcd_comm]
      simp only [eT_ap, eBin_ap, eBor_ap, eC_ap, slot_zero, slot_succ, M.bind_ret, neD_int]
      have hne : (!((b : Int) == 0)) = true := by simp; omega
      rw [hne]
      simp only [if_true, sPar2_ap, aCons_ap, eVar_ap, slot_succ, slot_zero, eBin_ap, eBor_ap, M.bind_ret, modD_int h1, aNil_ap, List.set_cons_zero, List.set_cons_succ]
      rw [h2, ih, hg]
theorem absv (a : Int) : (if a < 0 then -a else a) = (a.natAbs : Int) := by split <;> omega
theorem divisor_eq {a b : Int} (hb : Bd 400000 b) : m_divisor [.int a, .int b] = M.ret (.int (Int.gcd a b : Nat)) := by
  refine run_ret ?_
  have h1 : b.natAbs < fuel := by
    rw [fuel_eq]
    exact hb.mono (by decide)
  have := loop_gcd fuel a.natAbs b.natAbs h1
  unfold v_divisor
  simp only [List.map_cons, List.map_nil, List.replicate, List.append_nil, sSeq_ap, sPar2_ap, aCons_ap, eCall_ap, eBor_ap, slot_zero, slot_succ, M.bind_ret, aNil_ap, absF_int, List.set_cons_zero, List.set_cons_succ, sWhile_ap, absv, List.nil_append, List.cons_append, Nat.sub_self]
  rw [this]
  simp only [M.bind_ret, sRet_ap, eVar_ap, slot_zero]
  rfl
end K10

set_option Elab.async false
set_option linter.all false
set_option maxRecDepth 100000
set_option maxHeartbeats 4000000
namespace K10
open PySem PySem.Spec PyProof.Rows L2 DL
theorem gcd_step (a b : Nat) : Nat.gcd b (a % b) = Nat.gcd a b := by rw [Nat.gcd_comm b (a % b), ← Nat.gcd_rec b a, Nat.gcd_comm]
/-- the law's loop: slots i, j hold the two numbers -/
abbrev bLg : SV := sSeq (sIf (eT (eBin eqD (eBor 1) (eC (.int 0)))) sBreak sNil) (sPar2 0 1 (aCons (eVar 1) (aCons (eBin modD (eCall intF (aCons (eBor 0) aNil)) (eBor 1)) aNil)))
theorem loop_lg : ∀ (ds : List D) (a b : Nat) (y : Slot), stp a b ≤ ds.length → ∃ b' y', forL (tgN 2) bLg ds [.sh (.int a), .sh (.int b), y] = M.ret (.nx [.sh (.int (Nat.gcd a b : Nat)), .sh (.int b'), y'])
  | [], a, b, y, h => by
    by_cases hb : 0 < b
    · rw [stp_pos hb] at h
      exact absurd h (by simp)
    · have e : b = 0 := by omega
      subst e
      exact ⟨_, _, by rw [Nat.gcd_zero_right]; rfl⟩
  | d :: ds, a, b, y, h => by
    unfold forL
    simp only [tgN_ap, List.set_cons_zero, List.set_cons_succ]
    by_cases hb : b = 0
    · subst hb
      refine ⟨0, .sh d, ?_⟩
      simp
    · have h1 : (0 : Int) < (b : Int) := by omega
      have h2 : ((a : Int) % (b : Int)) = ((a % b : Nat) : Int) := by omega
      have hne : ((b : Int) == 0) = false := by simp; omega
      rw [stp_pos (by omega), List.length_cons] at h
      obtain ⟨b', y', ih⟩ := loop_lg ds b (a % b) (.sh d) (by omega)
      refine ⟨b', y', ?_⟩
      simp only [sSeq_ap, sIf_ap, eT_ap, eBin_ap, eBor_ap, eC_ap, slot_zero, slot_succ, M.bind_ret, eqD_int, hne, Bool.false_eq_true, if_false, sNil_ap, sPar2_ap, aCons_ap, eVar_ap, eCall_ap, aNil_ap, intF_int, modD_int h1, List.set_cons_zero, List.set_cons_succ]
      rw [h2, ih, gcd_step]
theorem law_gcd_eq {a b : Int} {n : Nat} (hb : Bd n b) (hn : n ≤ 200) : m__law_gcd [.int a, .int b] = M.ret (.int (Int.gcd a b : Nat)) := by
  refine run_ret ?_
  have h1 : stp a.natAbs b.natAbs ≤ ((List.range 400).map fun (k : Nat) => D.int (k : Int)).length := by
    have := stp_le n a.natAbs b.natAbs hb
    rw [List.length_map, List.length_range]
    omega
  obtain ⟨b', y', h⟩ := loop_lg _ a.natAbs b.natAbs .un h1
  have h2 := rngD_nat 400 (by decide)
  unfold v__law_gcd
  simp only [List.map_cons, List.map_nil, List.replicate, List.append_nil, sSeq_ap, sPar2_ap, aCons_ap, eCall_ap, eBor_ap, slot_zero, slot_succ, M.bind_ret, aNil_ap, absF_int, List.set_cons_zero, List.set_cons_succ, sFor_ap, absv, List.nil_append, List.cons_append, Nat.sub_self, eRng_ap, eC_ap]
  rw [show (400 : Int) = ((400 : Nat) : Int) from rfl, h2, M.bind_ret, h]
  simp only [M.bind_ret, sRet_ap, eVar_ap, slot_zero]
  rfl
/-! ### fractions -/
/-- the least pair of a fraction -/
def mkF (a b : Int) : Int × Int := if b < 0 then ((0 - a) / (Int.gcd a b : Nat), (0 - b) / (Int.gcd a b : Nat)) else (a / (Int.gcd a b : Nat), b / (Int.gcd a b : Nat))
def FD (x : Int × Int) : D := .tup [.int x.1, .int x.2]
theorem gcd_pos {a b : Int} (hb : b ≠ 0) : 0 < Int.gcd a b := Int.gcd_pos_of_ne_zero_right a hb
theorem gcd_small {a b : Int} {n : Nat} (hb : b ≠ 0) (h : Bd n b) (hn : n ≤ 8000) : ((Int.gcd a b : Nat) : Int).natAbs < 2 ^ 8000 := by
  have h1 : Int.gcd a b ≤ b.natAbs := Nat.le_of_dvd (by omega) (Int.gcd_dvd_natAbs_right a b)
  have h2 := h.mono hn
  unfold Bd at h2
  rw [Int.natAbs_natCast]
  omega
theorem gcd_sub (a b : Int) : Int.gcd (0 - a) (0 - b) = Int.gcd a b := by
  rw [Int.zero_sub, Int.zero_sub, Int.neg_gcd, Int.gcd_neg]
theorem part_eq {a b : Int} {n : Nat} (hb : b ≠ 0) (h : Bd n b) (hn : n ≤ 8000) : m_part [.int a, .int b] = M.ret (FD (mkF a b)) := by
  refine run_ret ?_
  have hg := gcd_small (a := a) hb h hn
  have hg0 : (0 : Int) < ((Int.gcd a b : Nat) : Int) := by
    have := gcd_pos (a := a) hb
    omega
  unfold v_part mkF
  by_cases hneg : b < 0
  · simp only [List.map_cons, List.map_nil, List.replicate, List.append_nil, sSeq_ap, sIf_ap, eT_ap, eBin_ap, eBor_ap, eC_ap, slot_zero, slot_succ, M.bind_ret, ltD_int, decide_eq_true hneg, if_true, sPar2_ap, aCons_ap, subD_int, aNil_ap, List.set_cons_zero, List.set_cons_succ, List.nil_append, List.cons_append, sAsg_ap, eCall_ap, eVar_ap, if_pos hneg]
    rw [divisor_eq (by
      have := h.mono (by omega : n ≤ 400000)
      unfold Bd at this ⊢
      rw [Int.zero_sub, Int.natAbs_neg]
      exact this), gcd_sub]
    simp only [M.bind_ret, tgN_ap, List.set_cons_zero, List.set_cons_succ, sRet_ap, eTup_ap, aCons_ap, eBin_ap, eBor_ap, slot_zero, slot_succ, fdivD_int hg0 hg, aNil_ap]
    rfl
  · simp only [List.map_cons, List.map_nil, List.replicate, List.append_nil, sSeq_ap, sIf_ap, eT_ap, eBin_ap, eBor_ap, eC_ap, slot_zero, slot_succ, M.bind_ret, ltD_int, decide_eq_false hneg, Bool.false_eq_true, if_false, sNil_ap, aCons_ap, subD_int, aNil_ap, List.set_cons_zero, List.set_cons_succ, List.nil_append, List.cons_append, sAsg_ap, eCall_ap, eVar_ap, if_neg hneg]
    rw [divisor_eq (h.mono (by omega))]
    simp only [M.bind_ret, tgN_ap, List.set_cons_zero, List.set_cons_succ, sRet_ap, eTup_ap, aCons_ap, eBin_ap, eBor_ap, slot_zero, slot_succ, fdivD_int hg0 hg, aNil_ap]
    rfl
abbrev bFr : SV := sSeq (sIf (eT (eBin eqD (eBor 3) (eC (.int 0)))) sBreak sNil) (sPar2 2 3 (aCons (eVar 3) (aCons (eBin modD (eCall intF (aCons (eBor 2) aNil)) (eBor 3)) aNil)))
theorem loop_fr (u v : Slot) : ∀ (ds : List D) (a b : Nat) (y : Slot), stp a b ≤ ds.length → ∃ b' y', forL (tgN 4) bFr ds [u, v, .sh (.int a), .sh (.int b), y] = M.ret (.nx [u, v, .sh (.int (Nat.gcd a b : Nat)), .sh (.int b'), y'])
  | [], a, b, y, h => by
    by_cases hb : 0 < b
    · rw [stp_pos hb] at h
      exact absurd h (by simp)
    · have e : b = 0 := by omega
      subst e
      exact ⟨_, _, by rw [Nat.gcd_zero_right]; rfl⟩
  | d :: ds, a, b, y, h => by
    unfold forL
    simp only [tgN_ap, List.set_cons_zero, List.set_cons_succ]
    by_cases hb : b = 0
    · subst hb
      refine ⟨0, .sh d, ?_⟩
      simp
    · have h1 : (0 : Int) < (b : Int) := by omega
      have h2 : ((a : Int) % (b : Int)) = ((a % b : Nat) : Int) := by omega
      have hne : ((b : Int) == 0) = false := by simp; omega
      rw [stp_pos (by omega), List.length_cons] at h
      obtain ⟨b', y', ih⟩ := loop_fr u v ds b (a % b) (.sh d) (by omega)
      refine ⟨b', y', ?_⟩
      simp only [sSeq_ap, sIf_ap, eT_ap, eBin_ap, eBor_ap, eC_ap, slot_zero, slot_succ, M.bind_ret, eqD_int, hne, Bool.false_eq_true, if_false, sNil_ap, sPar2_ap, aCons_ap, eVar_ap, eCall_ap, aNil_ap, intF_int, modD_int h1, List.set_cons_zero, List.set_cons_succ]
      rw [h2, ih, gcd_step]
theorem gcd_abs (a b : Int) : Nat.gcd a.natAbs b.natAbs = Int.gcd a b := rfl
theorem law_fr_eq {a b : Int} {n : Nat} (hb : b ≠ 0) (h : Bd n b) (hn : n ≤ 2000) : m__law_fr [.int a, .int b] = M.ret (FD (mkF a b)) := by
  refine run_ret ?_
  have hg := gcd_small (a := a) hb h (by omega)
  have hg0 : (0 : Int) < ((Int.gcd a b : Nat) : Int) := by
    have := gcd_pos (a := a) hb
    omega
  have h1 : stp a.natAbs b.natAbs ≤ ((List.range 4000).map fun (k : Nat) => D.int (k : Int)).length := by
    have := stp_le n a.natAbs b.natAbs h
    rw [List.length_map, List.length_range]
    omega
  have h2 := rngD_nat 4000 (by decide)
  unfold v__law_fr mkF
  by_cases hneg : b < 0
  · obtain ⟨b', y', h3⟩ := loop_fr (.sh (.int (0 - a))) (.sh (.int (0 - b))) _ a.natAbs b.natAbs .un h1
    simp only [List.map_cons, List.map_nil, List.replicate, List.append_nil, sSeq_ap, sIf_ap, eT_ap, eBin_ap, eBor_ap, eC_ap, slot_zero, slot_succ, M.bind_ret, ltD_int, decide_eq_true hneg, if_true, sPar2_ap, aCons_ap, subD_int, aNil_ap, List.set_cons_zero, List.set_cons_succ, List.nil_append, List.cons_append, sFor_ap, eRng_ap, eCall_ap, absF_int, absv, eVar_ap, if_pos hneg]
    rw [show (4000 : Int) = ((4000 : Nat) : Int) from rfl, h2, M.bind_ret, show ((0 - a).natAbs : Int) = (a.natAbs : Int) by omega, show (0 - b : Int) = (b.natAbs : Int) by omega]
    rw [show (0 - b : Int) = (b.natAbs : Int) by omega] at h3
    rw [h3, gcd_abs]
    simp only [M.bind_ret, sRet_ap, eTup_ap, aCons_ap, eBin_ap, eBor_ap, slot_zero, slot_succ, fdivD_int hg0 hg, aNil_ap]
    rfl
  · obtain ⟨b', y', h3⟩ := loop_fr (.sh (.int a)) (.sh (.int b)) _ a.natAbs b.natAbs .un h1
    simp only [List.map_cons, List.map_nil, List.replicate, List.append_nil, sSeq_ap, sIf_ap, eT_ap, eBin_ap, eBor_ap, eC_ap, slot_zero, slot_succ, M.bind_ret, ltD_int, decide_eq_false hneg, Bool.false_eq_true, if_false, sNil_ap, sPar2_ap, aCons_ap, subD_int, aNil_ap, List.set_cons_zero, List.set_cons_succ, List.nil_append, List.cons_append, sFor_ap, eRng_ap, eCall_ap, absF_int, absv, eVar_ap, if_neg hneg]
    have eb : (b.natAbs : Int) = b := by omega
    rw [eb] at h3
    rw [show (4000 : Int) = ((4000 : Nat) : Int) from rfl, h2, M.bind_ret, h3, gcd_abs]
    simp only [M.bind_ret, sRet_ap, eTup_ap, aCons_ap, eBin_ap, eBor_ap, slot_zero, slot_succ, fdivD_int hg0 hg, aNil_ap]
    rfl
end K10

set_option Elab.async false
set_option linter.all false
set_option maxRecDepth 100000
set_option maxHeartbeats 4000000
namespace K10
open PySem PySem.Spec PyProof.Rows L2 DL
/-! ### the least pair: what it is -/
/-- in least terms -/
def Lst (x : Int × Int) : Prop := 0 < x.2 ∧ Int.gcd x.1 x.2 = 1
theorem mkF_spec {a b : Int} (hb : b ≠ 0) : Lst (mkF a b) ∧ (mkF a b).1 * b = a * (mkF a b).2 := by
  have hg := gcd_pos (a := a) hb
  have hg0 : ((Int.gcd a b : Nat) : Int) ≠ 0 := by omega
  obtain ⟨c, hc⟩ := Int.gcd_dvd_left a b
  obtain ⟨d, hd⟩ := Int.gcd_dvd_right a b
  have e1 : a / ((Int.gcd a b : Nat) : Int) = c := by
    conv => lhs; lhs; rw [hc]
    rw [Int.mul_ediv_cancel_left _ hg0]
  have e2 : b / ((Int.gcd a b : Nat) : Int) = d := by
    conv => lhs; lhs; rw [hd]
    rw [Int.mul_ediv_cancel_left _ hg0]
  have e3 : (0 - a) / ((Int.gcd a b : Nat) : Int) = -c := by
    have : 0 - a = ((Int.gcd a b : Nat) : Int) * (-c) := by rw [Int.mul_neg, ← hc]; omega
    conv => lhs; lhs; rw [this]
    rw [Int.mul_ediv_cancel_left _ hg0]
  have e4 : (0 - b) / ((Int.gcd a b : Nat) : Int) = -d := by
    have : 0 - b = ((Int.gcd a b : Nat) : Int) * (-d) := by rw [Int.mul_neg, ← hd]; omega
    conv => lhs; lhs; rw [this]
    rw [Int.mul_ediv_cancel_left _ hg0]
  have hcd : Int.gcd c d = 1 := by
    have h := Int.gcd_ediv_gcd_ediv_gcd hg
    rw [e1, e2] at h
    exact h
  have hd0 : d ≠ 0 := fun z => hb (by rw [hd, z, Int.mul_zero])
  have key : c * b = a * d := by
    conv => lhs; rhs; rw [hd]
    conv => rhs; lhs; rw [hc]
    rw [← Int.mul_assoc, Int.mul_comm c, Int.mul_assoc]
  unfold mkF
  by_cases hneg : b < 0
  · rw [if_pos hneg, e3, e4]
    have hdn : d < 0 := by
      have hpos : (0 : Int) < ((Int.gcd a b : Nat) : Int) := by omega
      by_cases hdp : 0 < d
      · have := Int.mul_pos hpos hdp
        rw [← hd] at this
        omega
      · omega
    refine ⟨⟨by show 0 < -d; omega, by show Int.gcd (-c) (-d) = 1; rw [Int.neg_gcd, Int.gcd_neg]; exact hcd⟩, ?_⟩
    show -c * b = a * -d
    rw [Int.neg_mul, Int.mul_neg, key]
  · rw [if_neg hneg, e1, e2]
    have hdp : 0 < d := by
      have hpos : (0 : Int) < ((Int.gcd a b : Nat) : Int) := by omega
      by_cases hdn : d < 0
      · have := Int.mul_neg_of_pos_of_neg hpos hdn
        rw [← hd] at this
        omega
      · omega
    exact ⟨⟨hdp, hcd⟩, key⟩
theorem dvd_cop {a b c : Int} (h : b ∣ a * c) (g : Int.gcd a b = 1) : b ∣ c := by
  rw [← Int.natAbs_dvd_natAbs, Int.natAbs_mul] at h
  rw [← Int.natAbs_dvd_natAbs]
  exact Nat.Coprime.dvd_of_dvd_mul_left (Nat.coprime_comm.mp g) h
theorem Lst.uniq {x y : Int × Int} (hx : Lst x) (hy : Lst y) (h : x.1 * y.2 = y.1 * x.2) : x = y := by
  obtain ⟨a, b⟩ := x
  obtain ⟨c, d⟩ := y
  obtain ⟨hb, h1⟩ := hx
  obtain ⟨hd, h2⟩ := hy
  have hb : 0 < b := hb
  have hd : 0 < d := hd
  have h : a * d = c * b := h
  -- b divides d and d divides b
  have q1 : b ∣ d := by
    have : b ∣ a * d := ⟨c, by rw [h, Int.mul_comm]⟩
    exact dvd_cop this h1
  have q2 : d ∣ b := by
    have : d ∣ c * b := ⟨a, by rw [← h, Int.mul_comm]⟩
    exact dvd_cop this h2
  have e : b = d := Int.le_antisymm (Int.le_of_dvd hd q1) (Int.le_of_dvd hb q2)
  subst e
  have e2 : a = c := Int.eq_of_mul_eq_mul_right (by omega) h
  rw [e2]
theorem mkF_eq {a b c d : Int} (hb : b ≠ 0) (hd : d ≠ 0) (h : a * d = c * b) : mkF a b = mkF c d := by
  obtain ⟨l1, e1⟩ := mkF_spec (a := a) hb
  obtain ⟨l2, e2⟩ := mkF_spec (a := c) hd
  refine l1.uniq l2 ?_
  have hbd : b * d ≠ 0 := Int.mul_ne_zero hb hd
  refine Int.eq_of_mul_eq_mul_right hbd ?_
  calc (mkF a b).1 * (mkF c d).2 * (b * d) = ((mkF a b).1 * b) * ((mkF c d).2 * d) := by
        rw [Int.mul_assoc, Int.mul_left_comm (mkF c d).2 b d, ← Int.mul_assoc]
    _ = (a * (mkF a b).2) * ((mkF c d).2 * d) := by rw [e1]
    _ = (a * d) * ((mkF a b).2 * (mkF c d).2) := by
        rw [Int.mul_assoc, Int.mul_assoc, Int.mul_comm (mkF c d).2 d, Int.mul_left_comm (mkF a b).2 d]
    _ = (c * b) * ((mkF a b).2 * (mkF c d).2) := by rw [h]
    _ = (c * (mkF c d).2) * ((mkF a b).2 * b) := by
        rw [Int.mul_assoc, Int.mul_assoc, Int.mul_left_comm (mkF c d).2 (mkF a b).2 b, Int.mul_left_comm b (mkF a b).2 (mkF c d).2, Int.mul_comm b (mkF c d).2]
    _ = ((mkF c d).1 * d) * ((mkF a b).2 * b) := by rw [e2]
    _ = (mkF c d).1 * (mkF a b).2 * (b * d) := by
        rw [Int.mul_assoc, Int.mul_left_comm d (mkF a b).2 b, ← Int.mul_assoc, Int.mul_comm d b]
theorem mkF_self {x : Int × Int} (h : Lst x) : mkF x.1 x.2 = x := by
  have h2 : x.2 ≠ 0 := by
    have := h.1
    omega
  obtain ⟨l, e⟩ := mkF_spec (a := x.1) h2
  exact l.uniq h e
theorem mkF_bd {a b : Int} {n : Nat} (ha : Bd n a) (hb : Bd n b) : Bd n (mkF a b).1 ∧ Bd n (mkF a b).2 := by
  unfold mkF
  split
  · refine ⟨Bd.div ?_, Bd.div ?_⟩
    · have : Bd n (-a) := ha.neg
      rw [Int.zero_sub]
      exact this
    · have : Bd n (-b) := hb.neg
      rw [Int.zero_sub]
      exact this
  · exact ⟨ha.div, hb.div⟩
theorem mkF_bd' {a b : Int} {n : Nat} (hb : Bd n b) : Bd n (mkF a b).2 := by
  unfold mkF
  split
  · refine Bd.div ?_
    have : Bd n (-b) := hb.neg
    rw [Int.zero_sub]
    exact this
  · exact hb.div
/-- in least terms, of bounded size -/
structure PB (n : Nat) (x : Int × Int) : Prop where
  l : Lst x
  a : Bd n x.1
  b : Bd n x.2
theorem PB.ne {n : Nat} {x : Int × Int} (h : PB n x) : x.2 ≠ 0 := by
  have := h.l.1
  omega
theorem PB.mono {n m : Nat} {x : Int × Int} (h : PB n x) (k : n ≤ m) : PB m x := ⟨h.l, h.a.mono k, h.b.mono k⟩
theorem PB.of {n : Nat} {a b : Int} (hb : b ≠ 0) (h1 : Bd n a) (h2 : Bd n b) : PB n (mkF a b) := ⟨(mkF_spec hb).1, (mkF_bd h1 h2).1, (mkF_bd h1 h2).2⟩
/-! ### the operations -/
def addQ (x y : Int × Int) : Int × Int := mkF (x.1 * y.2 + y.1 * x.2) (x.2 * y.2)
def subQ (x y : Int × Int) : Int × Int := mkF (x.1 * y.2 - y.1 * x.2) (x.2 * y.2)
def mulQ (x y : Int × Int) : Int × Int := mkF (x.1 * y.1) (x.2 * y.2)
theorem Bd.max2 {n m : Nat} {i : Int} (h : Bd n i) : Bd (n + m) i := h.mono (by omega)
theorem addQ_pb {n m : Nat} {x y : Int × Int} (hx : PB n x) (hy : PB m y) : PB (n + m + 1) (addQ x y) :=
  PB.of (Int.mul_ne_zero hx.ne hy.ne) (((hx.a.mul hy.b).add (hy.a.mul hx.b)).mono (by omega)) ((hx.b.mul hy.b).mono (by omega))
theorem subQ_pb {n m : Nat} {x y : Int × Int} (hx : PB n x) (hy : PB m y) : PB (n + m + 1) (subQ x y) :=
  PB.of (Int.mul_ne_zero hx.ne hy.ne) (((hx.a.mul hy.b).sub (hy.a.mul hx.b)).mono (by omega)) ((hx.b.mul hy.b).mono (by omega))
theorem mulQ_pb {n m : Nat} {x y : Int × Int} (hx : PB n x) (hy : PB m y) : PB (n + m + 1) (mulQ x y) :=
  PB.of (Int.mul_ne_zero hx.ne hy.ne) ((hx.a.mul hy.a).mono (by omega)) ((hx.b.mul hy.b).mono (by omega))
theorem mulD_bd {n m : Nat} {i j : Int} (h : Bd n i) (k : Bd m j) (hn : n ≤ 100000) (hm : m ≤ 100000) : mulD (.int i) (.int j) = M.ret (.int (i * j)) := mulD_big (h.big (by omega)) (k.big (by omega))
section
variable {n m : Nat} {x y : Int × Int}
theorem plus_eq (hx : PB n x) (hy : PB m y) (hn : n ≤ 900) (hm : m ≤ 900) : m_plus [FD x, FD y] = M.ret (FD (addQ x y)) := by
  refine run_ret ?_
  unfold v_plus FD
  simp only [List.map_cons, List.map_nil, List.replicate, List.append_nil, sRet_ap, eCall_ap, aCons_ap, eBin_ap, eBor_ap, eC_ap, slot_zero, slot_succ, M.bind_ret, ixD_t0, ixD_t1, mulD_bd hx.a hy.b (by omega) (by omega), mulD_bd hy.a hx.b (by omega) (by omega), mulD_bd hx.b hy.b (by omega) (by omega), addD_int, aNil_ap, List.nil_append, List.cons_append]
  rw [part_eq (n := 2000) (Int.mul_ne_zero hx.ne hy.ne) ((hx.b.mul hy.b).mono (by omega)) (by omega)]
  rfl
theorem minus_eq (hx : PB n x) (hy : PB m y) (hn : n ≤ 900) (hm : m ≤ 900) : m_minus [FD x, FD y] = M.ret (FD (subQ x y)) := by
  refine run_ret ?_
  unfold v_minus FD
  simp only [List.map_cons, List.map_nil, List.replicate, List.append_nil, sRet_ap, eCall_ap, aCons_ap, eBin_ap, eBor_ap, eC_ap, slot_zero, slot_succ, M.bind_ret, ixD_t0, ixD_t1, mulD_bd hx.a hy.b (by omega) (by omega), mulD_bd hy.a hx.b (by omega) (by omega), mulD_bd hx.b hy.b (by omega) (by omega), subD_int, aNil_ap, List.nil_append, List.cons_append]
  rw [part_eq (n := 2000) (Int.mul_ne_zero hx.ne hy.ne) ((hx.b.mul hy.b).mono (by omega)) (by omega)]
  rfl
theorem times_eq (hx : PB n x) (hy : PB m y) (hn : n ≤ 900) (hm : m ≤ 900) : m_times [FD x, FD y] = M.ret (FD (mulQ x y)) := by
  refine run_ret ?_
  unfold v_times FD
  simp only [List.map_cons, List.map_nil, List.replicate, List.append_nil, sRet_ap, eCall_ap, aCons_ap, eBin_ap, eBor_ap, eC_ap, slot_zero, slot_succ, M.bind_ret, ixD_t0, ixD_t1, mulD_bd hx.a hy.a (by omega) (by omega), mulD_bd hx.b hy.b (by omega) (by omega), addD_int, aNil_ap, List.nil_append, List.cons_append]
  rw [part_eq (n := 2000) (Int.mul_ne_zero hx.ne hy.ne) ((hx.b.mul hy.b).mono (by omega)) (by omega)]
  rfl
theorem over_eq (hx : PB n x) (hy : PB m y) (h0 : y.1 ≠ 0) (hn : n ≤ 900) (hm : m ≤ 900) : m_over [FD x, FD y] = M.ret (FD (mkF (x.1 * y.2) (x.2 * y.1))) := by
  refine run_ret ?_
  unfold v_over FD
  simp only [List.map_cons, List.map_nil, List.replicate, List.append_nil, sRet_ap, eCall_ap, aCons_ap, eBin_ap, eBor_ap, eC_ap, slot_zero, slot_succ, M.bind_ret, ixD_t0, ixD_t1, mulD_bd hx.a hy.b (by omega) (by omega), mulD_bd hx.b hy.a (by omega) (by omega), addD_int, aNil_ap, List.nil_append, List.cons_append]
  rw [part_eq (n := 2000) (Int.mul_ne_zero hx.ne h0) ((hx.b.mul hy.a).mono (by omega)) (by omega)]
  rfl
theorem law_add_eq (hx : PB n x) (hy : PB m y) (hn : n ≤ 900) (hm : m ≤ 900) : m__law_add [FD x, FD y] = M.ret (FD (addQ x y)) := by
  refine run_ret ?_
  unfold v__law_add FD
  simp only [List.map_cons, List.map_nil, List.replicate, List.append_nil, sRet_ap, eCall_ap, aCons_ap, eBin_ap, eBor_ap, eC_ap, slot_zero, slot_succ, M.bind_ret, ixD_t0, ixD_t1, mulD_bd hx.a hy.b (by omega) (by omega), mulD_bd hy.a hx.b (by omega) (by omega), mulD_bd hx.b hy.b (by omega) (by omega), addD_int, aNil_ap, List.nil_append, List.cons_append]
  rw [law_fr_eq (n := 2000) (Int.mul_ne_zero hx.ne hy.ne) ((hx.b.mul hy.b).mono (by omega)) (by omega)]
  rfl
/-- of any two pairs, the second numbers not 0 -/
theorem law_mul_any {a b c d : Int} (ha : Bd n a) (hb : Bd n b) (hc : Bd m c) (hd : Bd m d) (b0 : b ≠ 0) (d0 : d ≠ 0) (hn : n ≤ 900) (hm : m ≤ 900) : m__law_mul [.tup [.int a, .int b], .tup [.int c, .int d]] = M.ret (FD (mkF (a * c) (b * d))) := by
  refine run_ret ?_
  unfold v__law_mul
  simp only [List.map_cons, List.map_nil, List.replicate, List.append_nil, sRet_ap, eCall_ap, aCons_ap, eBin_ap, eBor_ap, eC_ap, slot_zero, slot_succ, M.bind_ret, ixD_t0, ixD_t1, mulD_bd ha hc (by omega) (by omega), mulD_bd hb hd (by omega) (by omega), aNil_ap, List.nil_append, List.cons_append]
  rw [law_fr_eq (n := 2000) (Int.mul_ne_zero b0 d0) ((hb.mul hd).mono (by omega)) (by omega)]
  rfl
theorem law_mul_eq (hx : PB n x) (hy : PB m y) (hn : n ≤ 900) (hm : m ≤ 900) : m__law_mul [FD x, FD y] = M.ret (FD (mulQ x y)) := law_mul_any hx.a hx.b hy.a hy.b hx.ne hy.ne hn hm
theorem law_sub_eq (hx : PB n x) (hy : PB m y) (hn : n ≤ 900) (hm : m ≤ 900) : m__law_sub [FD x, FD y] = M.ret (FD (subQ x y)) := by
  refine run_ret ?_
  have hy' : PB m (0 - y.1, y.2) := ⟨⟨hy.l.1, by show Int.gcd (0 - y.1) y.2 = 1; rw [Int.zero_sub, Int.neg_gcd]; exact hy.l.2⟩, by show Bd m (0 - y.1); rw [Int.zero_sub]; exact hy.a.neg, hy.b⟩
  have h := law_add_eq hx hy' hn hm
  unfold FD at h
  unfold v__law_sub FD
  simp only [List.map_cons, List.map_nil, List.replicate, List.append_nil, sRet_ap, eCall_ap, aCons_ap, eBin_ap, eBor_ap, eVar_ap, eC_ap, slot_zero, slot_succ, M.bind_ret, ixD_t0, ixD_t1, subD_int, aNil_ap, List.nil_append, List.cons_append, eTup_ap, List.length_cons, List.length_nil, fits_small _ (by decide : 0 + 1 + 1 ≤ 16777216), if_true, h]
  unfold addQ subQ
  have e : x.1 * y.2 + (0 - y.1) * x.2 = x.1 * y.2 - y.1 * x.2 := by
    rw [Int.zero_sub, Int.neg_mul]
    omega
  rw [e]
theorem is_less_eq (hx : PB n x) (hy : PB m y) (hn : n ≤ 900) (hm : m ≤ 900) : m_is_less [FD x, FD y] = M.ret (.bl (decide (x.1 * y.2 < y.1 * x.2))) := by
  refine run_ret ?_
  unfold v_is_less FD
  simp only [List.map_cons, List.map_nil, List.replicate, List.append_nil, sRet_ap, eBin_ap, eBor_ap, eC_ap, slot_zero, slot_succ, M.bind_ret, ixD_t0, ixD_t1, mulD_bd hx.a hy.b (by omega) (by omega), mulD_bd hy.a hx.b (by omega) (by omega), ltD_int, List.nil_append, List.cons_append]
theorem law_sign_eq (hx : PB n x) (hy : PB m y) (hn : n ≤ 900) (hm : m ≤ 900) : ∃ g : Int, m__law_sign [FD x, FD y] = M.ret (.int g) ∧ (g < 0 ↔ x.1 * y.2 < y.1 * x.2) := by
  by_cases h0 : x.1 * y.2 - y.1 * x.2 = 0
  · refine ⟨0, run_ret ?_, by omega⟩
    unfold v__law_sign FD
    simp only [List.map_cons, List.map_nil, List.replicate, List.append_nil, sSeq_ap, sAsg_ap, tgN_ap, sRet_ap, eIf_ap, eT_ap, eBin_ap, eBor_ap, eC_ap, slot_zero, slot_succ, M.bind_ret, ixD_t0, ixD_t1, mulD_bd hx.a hy.b (by omega) (by omega), mulD_bd hy.a hx.b (by omega) (by omega), subD_int, List.nil_append, List.cons_append, List.set_cons_zero, List.set_cons_succ, h0, eqD_int]
    rfl
  · have hn0 : ((x.1 * y.2 - y.1 * x.2) == 0) = false := by simp only [beq_eq_false_iff_ne, ne_eq]; exact h0
    by_cases hp : 0 < x.1 * y.2 - y.1 * x.2
    · refine ⟨1, run_ret ?_, by omega⟩
      unfold v__law_sign FD
      simp only [List.map_cons, List.map_nil, List.replicate, List.append_nil, sSeq_ap, sAsg_ap, tgN_ap, sRet_ap, eIf_ap, eT_ap, eBin_ap, eBor_ap, eC_ap, slot_zero, slot_succ, M.bind_ret, ixD_t0, ixD_t1, mulD_bd hx.a hy.b (by omega) (by omega), mulD_bd hy.a hx.b (by omega) (by omega), subD_int, List.nil_append, List.cons_append, List.set_cons_zero, List.set_cons_succ, hn0, eqD_int, gtD_int, decide_eq_true hp, Bool.false_eq_true, if_false, if_true]
    · refine ⟨-1, run_ret ?_, by omega⟩
      unfold v__law_sign FD
      simp only [List.map_cons, List.map_nil, List.replicate, List.append_nil, sSeq_ap, sAsg_ap, tgN_ap, sRet_ap, eIf_ap, eT_ap, eBin_ap, eUn_ap, negD_int, eBor_ap, eC_ap, slot_zero, slot_succ, M.bind_ret, ixD_t0, ixD_t1, mulD_bd hx.a hy.b (by omega) (by omega), mulD_bd hy.a hx.b (by omega) (by omega), subD_int, List.nil_append, List.cons_append, List.set_cons_zero, List.set_cons_succ, hn0, eqD_int, gtD_int, decide_eq_false hp, Bool.false_eq_true, if_false]
end
end K10

set_option Elab.async false
set_option linter.all false
set_option maxRecDepth 100000
set_option maxHeartbeats 4000000
namespace K10
open PySem PySem.Spec PyProof.Rows L2 DL
theorem ret_of {α : Type} {m : M α} {a : α} (h : ∀ s, m s = .ok a s) : m = M.ret a := funext h
def Rows (n : Nat) (xs : List (Int × Int)) : Prop := ∀ x ∈ xs, PB n x
theorem Rows.sub {n : Nat} {xs pre post : List (Int × Int)} {x : Int × Int} (h : Rows n xs) (e : xs = pre ++ x :: post) : PB n x := h x (by rw [e]; exact List.mem_append_right _ List.mem_cons_self)
/-! ### sums -/
def totQ (xs : List (Int × Int)) : Int × Int := xs.foldl addQ (0, 1)
theorem totQ_snoc (xs : List (Int × Int)) (x : Int × Int) : totQ (xs ++ [x]) = addQ (totQ xs) x := by
  unfold totQ
  rw [List.foldl_append]
  rfl
theorem pb01 : PB 1 (0, 1) := ⟨⟨by decide, by decide⟩, by show (0 : Int).natAbs < 2 ^ 1; decide, by show (1 : Int).natAbs < 2 ^ 1; decide⟩
theorem totQ_pb {n : Nat} : ∀ (xs : List (Int × Int)) {acc : Int × Int} {k : Nat}, PB k acc → Rows n xs → PB (k + xs.length * (n + 1)) (xs.foldl addQ acc)
  | [], _, _, h, _ => h.mono (by simp)
  | x :: xs, acc, k, h, r => by
    have h1 := addQ_pb h (r x List.mem_cons_self)
    have := totQ_pb xs h1 fun y hy => r y (List.mem_cons_of_mem _ hy)
    refine this.mono ?_
    rw [List.length_cons, Nat.succ_mul]
    omega
theorem totQ_pb' {n m : Nat} {xs : List (Int × Int)} (r : Rows n xs) (hl : xs.length ≤ m) : PB (1 + m * (n + 1)) (totQ xs) := (totQ_pb xs pb01 r).mono (Nat.add_le_add_left (Nat.mul_le_mul_right _ hl) _)
theorem total_eq {xs : List (Int × Int)} (r : Rows 60 xs) (hl : xs.length ≤ 8) : m_total [.lst (xs.map FD)] = M.ret (FD (totQ xs)) := by
  refine ret_of fun s => run_rt ?_
  unfold v_total
  rw [seq_ok (s1 := s) (en1 := [.sh (.lst (xs.map FD)), .sh (FD (0, 1)), .un]) rfl]
  obtain ⟨en', s', h, y, e1, e2⟩ := for_map (enc := FD) (xs := xs) (lv := eSeq (eVar 0)) (g := tgN 2) (b := sAsg (eCall m_plus (aCons (eVar 1) (aCons (eVar 2) aNil))) (tgN 1)) (en := [.sh (.lst (xs.map FD)), .sh (FD (0, 1)), .un]) (s := s) (s1 := s)
    (fun pre en s' => ∃ y, en = [.sh (.lst (xs.map FD)), .sh (FD (totQ pre)), y] ∧ s' = s) rfl ⟨_, rfl, rfl⟩ (by
      rintro pre x post en s' e ⟨y, rfl, rfl⟩
      have hp : pre.length ≤ 8 := by
        have := congrArg List.length e
        rw [List.length_append, List.length_cons] at this
        omega
      have h1 := totQ_pb' (m := 8) (xs := pre) (fun z hz => r z (by rw [e]; exact List.mem_append_left _ hz)) hp
      refine ⟨_, rfl, [.sh (.lst (xs.map FD)), .sh (FD (totQ (pre ++ [x]))), .sh (FD x)], s', ?_, _, rfl, rfl⟩
      simp only [sAsg_ap, eCall_ap, aCons_ap, eVar_ap, List.set_cons_succ, List.set_cons_zero, slot_succ, slot_zero, M.bind_ret, aNil_ap]
      rw [plus_eq h1 (r.sub e) (by omega) (by omega), totQ_snoc]
      rfl)
  rw [seq_ok h, e1, e2]
  rfl
/-! ### the least -/
def lsStep (b : Option (Int × Int)) (x : Int × Int) : Option (Int × Int) := match b with
  | none => some x
  | some y => if x.1 * y.2 < y.1 * x.2 then some x else some y
def lsQ (xs : List (Int × Int)) : Option (Int × Int) := xs.foldl lsStep none
theorem lsQ_snoc (xs : List (Int × Int)) (x : Int × Int) : lsQ (xs ++ [x]) = lsStep (lsQ xs) x := by
  unfold lsQ
  rw [List.foldl_append]
  rfl
def OD : Option (Int × Int) → D
  | none => .non
  | some x => FD x
theorem lsQ_mem {n : Nat} : ∀ (xs : List (Int × Int)) {b : Option (Int × Int)}, (∀ y, b = some y → PB n y) → Rows n xs → ∀ y, xs.foldl lsStep b = some y → PB n y
  | [], _, h, _ => h
  | x :: xs, b, h, r => by
    refine lsQ_mem xs (fun y hy => ?_) fun z hz => r z (List.mem_cons_of_mem _ hz)
    unfold lsStep at hy
    split at hy
    · cases hy
      exact r _ List.mem_cons_self
    · split at hy
      · cases hy
        exact r _ List.mem_cons_self
      · cases hy
        exact h _ rfl
theorem least_eq {xs : List (Int × Int)} (r : Rows 60 xs) : m_least_of [.lst (xs.map FD)] = M.ret (OD (lsQ xs)) := by
  refine ret_of fun s => run_rt ?_
  unfold v_least_of
  rw [seq_ok (s1 := s) (en1 := [.sh (.lst (xs.map FD)), .sh .non, .un]) rfl]
  obtain ⟨en', s', h, y, e1, e2⟩ := for_map (enc := FD) (xs := xs) (lv := eSeq (eVar 0)) (g := tgN 2) (b := sIf (tvOr (eT (eBin isNonD (eBor 1) (eC .non))) (eT (eCall m_is_less (aCons (eVar 2) (aCons (eVar 1) aNil))))) (sAsg (eVar 2) (tgN 1)) sNil) (en := [.sh (.lst (xs.map FD)), .sh .non, .un]) (s := s) (s1 := s)
    (fun pre en s' => ∃ y, en = [.sh (.lst (xs.map FD)), .sh (OD (lsQ pre)), y] ∧ s' = s) rfl ⟨_, rfl, rfl⟩ (by
      rintro pre x post en s' e ⟨y, rfl, rfl⟩
      refine ⟨_, rfl, [.sh (.lst (xs.map FD)), .sh (OD (lsQ (pre ++ [x]))), .sh (FD x)], s', ?_, _, rfl, rfl⟩
      rw [lsQ_snoc]
      cases q : lsQ pre with
      | none => rfl
      | some y =>
        have hy := lsQ_mem (n := 60) pre (b := none) (fun _ z => by cases z) (fun z hz => r z (by rw [e]; exact List.mem_append_left _ hz)) y q
        simp only [sIf_ap, tvOr_ap, eT_ap, eBin_ap, eBor_ap, eC_ap, eCall_ap, aCons_ap, eVar_ap, List.set_cons_succ, List.set_cons_zero, slot_succ, slot_zero, M.bind_ret, aNil_ap, isNonD_non, OD]
        rw [is_less_eq (r.sub e) hy (by omega) (by omega)]
        have hn : (FD y).isN = false := rfl
        rw [hn]
        unfold lsStep
        by_cases hl : x.1 * y.2 < y.1 * x.2
        · simp only [Bool.false_eq_true, if_false, M.bind_ret, decide_eq_true hl, if_true, sAsg_ap, eVar_ap, slot_succ, slot_zero, tgN_ap, List.set_cons_succ, List.set_cons_zero, if_pos hl]
          rfl
        · simp only [Bool.false_eq_true, if_false, M.bind_ret, decide_eq_false hl, sNil_ap, if_neg hl]
          rfl)
  rw [seq_ok h, e1, e2]
  rfl
/-! ### whole numbers -/
theorem below_eq {x : Int × Int} {n : Nat} (h : PB n x) (hn : n ≤ 900) : m_whole_below [FD x] = M.ret (.int (x.1 / x.2)) := by
  refine run_ret ?_
  unfold v_whole_below FD
  simp only [List.map_cons, List.map_nil, List.replicate, List.append_nil, sRet_ap, eBin_ap, eBor_ap, eC_ap, slot_zero, slot_succ, M.bind_ret, ixD_t0, ixD_t1, fdivD_int h.l.1 (h.b.mono (by omega)), List.nil_append, List.cons_append]
theorem above_eq {x : Int × Int} {n : Nat} (h : PB n x) (hn : n ≤ 900) : m_whole_above [FD x] = M.ret (.int (0 - (0 - x.1) / x.2)) := by
  refine run_ret ?_
  unfold v_whole_above FD
  simp only [List.map_cons, List.map_nil, List.replicate, List.append_nil, sRet_ap, eBin_ap, eBor_ap, eC_ap, slot_zero, slot_succ, M.bind_ret, ixD_t0, ixD_t1, subD_int, fdivD_int h.l.1 (h.b.mono (by omega)), List.nil_append, List.cons_append]
theorem whole_eq (a b : Int) : m_is_whole_part [.tup [.int a, .int b]] = M.ret (.bl (b == 1)) := by
  refine run_ret ?_
  unfold v_is_whole_part
  simp only [List.map_cons, List.map_nil, List.replicate, List.append_nil, sRet_ap, eBin_ap, eBor_ap, eC_ap, slot_zero, slot_succ, M.bind_ret, ixD_t1, eqD_int, List.nil_append, List.cons_append]
/-! ### rows made whole -/
def lcmQ (xs : List (Int × Int)) : Int := xs.foldl (fun c x => c * x.2 / ((Int.gcd c x.2 : Nat) : Int)) 1
theorem lcmQ_snoc (xs : List (Int × Int)) (x : Int × Int) : lcmQ (xs ++ [x]) = lcmQ xs * x.2 / ((Int.gcd (lcmQ xs) x.2 : Nat) : Int) := by
  unfold lcmQ
  rw [List.foldl_append]
  rfl
/-- c * d / gcd c d of two positive ones -/
theorem lcm_step {c d : Int} (hc : 0 < c) (hd : 0 < d) : 0 < c * d / ((Int.gcd c d : Nat) : Int) ∧ c ∣ c * d / ((Int.gcd c d : Nat) : Int) ∧ d ∣ c * d / ((Int.gcd c d : Nat) : Int) := by
  have hg0 : (0 : Int) < ((Int.gcd c d : Nat) : Int) := by
    have := gcd_pos (a := c) (b := d) (by omega)
    omega
  obtain ⟨u, hu⟩ := Int.gcd_dvd_left c d
  obtain ⟨v, hv⟩ := Int.gcd_dvd_right c d
  have e : c * d / ((Int.gcd c d : Nat) : Int) = c * v := by
    conv => lhs; lhs; rhs; rw [hv]
    rw [Int.mul_left_comm, Int.mul_ediv_cancel_left _ (by omega)]
  have e2 : c * v = u * d := by
    conv => lhs; lhs; rw [hu]
    conv => rhs; rhs; rw [hv]
    rw [Int.mul_assoc, Int.mul_left_comm]
  have hv0 : 0 < v := by
    by_cases z : 0 < v
    · exact z
    · have : ((Int.gcd c d : Nat) : Int) * v ≤ 0 := Int.mul_nonpos_of_nonneg_of_nonpos (by omega) (by omega)
      omega
  rw [e]
  exact ⟨Int.mul_pos hc hv0, ⟨v, rfl⟩, ⟨u, by rw [e2, Int.mul_comm]⟩⟩
theorem lcmQ_spec {n : Nat} (xs : List (Int × Int)) (r : Rows n xs) : 0 < lcmQ xs ∧ ∀ x ∈ xs, x.2 ∣ lcmQ xs := by
  have go : ∀ (ys : List (Int × Int)) (c : Int), Rows n ys → 0 < c → 0 < ys.foldl (fun c x => c * x.2 / ((Int.gcd c x.2 : Nat) : Int)) c ∧ c ∣ ys.foldl (fun c x => c * x.2 / ((Int.gcd c x.2 : Nat) : Int)) c ∧ ∀ x ∈ ys, x.2 ∣ ys.foldl (fun c x => c * x.2 / ((Int.gcd c x.2 : Nat) : Int)) c := by
    intro ys
    induction ys with
    | nil => intro c _ hc; exact ⟨hc, Int.dvd_refl c, fun _ h => nomatch h⟩
    | cons y ys ih =>
      intro c r hc
      obtain ⟨h1, h2, h3⟩ := lcm_step hc (r y List.mem_cons_self).l.1
      obtain ⟨i1, i2, i3⟩ := ih _ (fun z hz => r z (List.mem_cons_of_mem _ hz)) h1
      refine ⟨i1, Int.dvd_trans h2 i2, fun x hx => ?_⟩
      rcases List.mem_cons.mp hx with q | q
      · rw [q]
        exact Int.dvd_trans h3 i2
      · exact i3 x q
  obtain ⟨h1, _, h3⟩ := go xs 1 r (by decide)
  exact ⟨h1, h3⟩
theorem lcmQ_bd {n : Nat} : ∀ (xs : List (Int × Int)) (c : Int) (k : Nat), (∀ x ∈ xs, Bd n x.2) → Bd k c → Bd (k + xs.length * n) (xs.foldl (fun c x => c * x.2 / ((Int.gcd c x.2 : Nat) : Int)) c)
  | [], c, k, _, h => h.mono (by simp)
  | x :: xs, c, k, r, h => by
    have h1 : Bd (k + n) (c * x.2 / ((Int.gcd c x.2 : Nat) : Int)) := (h.mul (r x List.mem_cons_self)).div
    refine (lcmQ_bd xs _ _ (fun z hz => r z (List.mem_cons_of_mem _ hz)) h1).mono ?_
    rw [List.length_cons, Nat.succ_mul]
    omega
theorem lcmQ_bdS {n m : Nat} {xs : List (Int × Int)} (r : ∀ x ∈ xs, Bd n x.2) (hl : xs.length ≤ m) : Bd (1 + m * n) (lcmQ xs) :=
  (lcmQ_bd xs 1 1 r (by show (1 : Int).natAbs < 2 ^ 1; decide)).mono (Nat.add_le_add_left (Nat.mul_le_mul_right _ hl) _)
theorem lcmQ_bd' {n m : Nat} {xs : List (Int × Int)} (r : Rows n xs) (hl : xs.length ≤ m) : Bd (1 + m * n) (lcmQ xs) := lcmQ_bdS (fun x hx => (r x hx).b) hl
def fndQ (xs : List (Int × Int)) : List Int := xs.map fun x => x.1 * (lcmQ xs / x.2)
def gcdL (ns : List Int) : Nat := ns.foldl (fun g n => Int.gcd g n) 0
theorem gcdL_snoc (ns : List Int) (n : Int) : gcdL (ns ++ [n]) = Int.gcd (gcdL ns) n := by
  unfold gcdL
  rw [List.foldl_append]
  rfl
def sclQ (xs : List (Int × Int)) : List Int := if gcdL (fndQ xs) = 0 then fndQ xs else (fndQ xs).map fun n => n / ((gcdL (fndQ xs) : Nat) : Int)
theorem gcdL_dvd : ∀ (ns : List Int) (g : Nat), (ns.foldl (fun g n => Int.gcd g n) g ∣ g) ∧ ∀ n ∈ ns, ((ns.foldl (fun g n => Int.gcd g n) g : Nat) : Int) ∣ n
  | [], g => ⟨Nat.dvd_refl g, fun _ h => nomatch h⟩
  | n :: ns, g => by
    obtain ⟨h1, h2⟩ := gcdL_dvd ns (Int.gcd g n)
    refine ⟨Nat.dvd_trans h1 (by
      have := Int.gcd_dvd_natAbs_left (g : Int) n
      rw [Int.natAbs_natCast] at this
      exact this), fun x hx => ?_⟩
    rcases List.mem_cons.mp hx with q | q
    · rw [q]
      have h3 : ((Int.gcd g n : Nat) : Int) ∣ n := Int.gcd_dvd_right _ _
      exact Int.dvd_trans (Int.natCast_dvd_natCast.mpr h1) h3
    · exact h2 x q
theorem gcdL_pos : ∀ (ns : List Int) (g : Nat) (n : Int), n ∈ ns → n ≠ 0 → ns.foldl (fun g n => Int.gcd g n) g ≠ 0
  | m :: ns, g, n, h, h0 => by
    intro z
    have hd := (gcdL_dvd (m :: ns) g).2 n h
    rw [z] at hd
    exact h0 (Int.zero_dvd.mp hd)
/-- a common divisor divides the greatest one -/
theorem dvd_gcdL : ∀ (ns : List Int) (g k : Nat), k ∣ g → (∀ n ∈ ns, (k : Int) ∣ n) → k ∣ ns.foldl (fun g n => Int.gcd g n) g
  | [], g, k, h, _ => h
  | n :: ns, g, k, h, hn => by
    refine dvd_gcdL ns _ k ?_ fun m hm => hn m (List.mem_cons_of_mem _ hm)
    have h1 : k ∣ n.natAbs := by
      have := hn n List.mem_cons_self
      exact Int.ofNat_dvd_left.mp this
    exact Nat.dvd_gcd (by rw [Int.natAbs_natCast]; exact h) h1
end K10

set_option Elab.async false
set_option linter.all false
set_option maxRecDepth 100000
set_option maxHeartbeats 4000000
set_option exponentiation.threshold 100
namespace K10
open PySem PySem.Spec PyProof.Rows L2 DL
theorem fndQ_bd {n m : Nat} {xs : List (Int × Int)} (r : Rows n xs) (hl : xs.length ≤ m) : ∀ z ∈ fndQ xs, Bd (n + (1 + m * n)) z := by
  intro z hz
  obtain ⟨x, hx, rfl⟩ := List.mem_map.mp hz
  exact (r x hx).a.mul (lcmQ_bd' r hl).div
/-- .. where the lower numbers are small -/
theorem fndQ_bdS {n1 n2 m : Nat} {xs : List (Int × Int)} (r : ∀ x ∈ xs, Bd n1 x.1 ∧ Bd n2 x.2) (hl : xs.length ≤ m) : ∀ z ∈ fndQ xs, Bd (n1 + (1 + m * n2)) z := by
  intro z hz
  obtain ⟨x, hx, rfl⟩ := List.mem_map.mp hz
  exact (r x hx).1.mul (lcmQ_bdS (fun y hy => (r y hy).2) hl).div
theorem sclQ_bd {n : Nat} {xs : List (Int × Int)} (h : ∀ z ∈ fndQ xs, Bd n z) : ∀ z ∈ sclQ xs, Bd n z := by
  intro z hz
  unfold sclQ at hz
  split at hz
  · exact h z hz
  · obtain ⟨u, hu, rfl⟩ := List.mem_map.mp hz
    exact (h u hu).div
theorem gcd_bd {a b : Int} {n : Nat} (ha : Bd n a) (hb : Bd n b) : Bd n ((Int.gcd a b : Nat) : Int) := by
  by_cases h0 : b = 0
  · subst h0
    rw [Int.gcd_zero_right]
    unfold Bd at *
    rw [Int.natAbs_natCast]
    exact ha
  · have h1 : Int.gcd a b ≤ b.natAbs := Nat.le_of_dvd (by omega) (Int.gcd_dvd_natAbs_right a b)
    unfold Bd at *
    rw [Int.natAbs_natCast]
    omega
theorem gcdL_bd {n : Nat} : ∀ (ns : List Int) (g : Nat), Bd n (g : Int) → (∀ z ∈ ns, Bd n z) → Bd n ((ns.foldl (fun g n => Int.gcd g n) g : Nat) : Int)
  | [], g, h, _ => h
  | z :: ns, g, h, k => gcdL_bd ns _ (gcd_bd h (k z List.mem_cons_self)) fun y hy => k y (List.mem_cons_of_mem _ hy)
theorem bd0 (n : Nat) : Bd n 0 := Nat.two_pow_pos n
theorem scaled_eq {xs : List (Int × Int)} (r : Rows 60 xs) (hl : xs.length ≤ 8) : m_scaled [.lst (xs.map FD)] = M.ret (.tup ((sclQ xs).map D.int)) := by
  refine ret_of fun s => run_rt ?_
  unfold v_scaled
  rw [seq_ok (s1 := s) (en1 := [.sh (.lst (xs.map FD)), .sh (.int 1), .un, .un, .un, .un]) rfl]
  obtain ⟨en', s', h, y, hy, e1, e2⟩ := for_map (enc := FD) (xs := xs) (lv := eSeq (eVar 0)) (g := tgN 2) (b := sAsg (eBin fdivD (eBin mulD (eBor 1) (eBin ixD (eBor 2) (eC (.int 1)))) (eCall m_divisor (aCons (eVar 1) (aCons (eBin ixD (eBor 2) (eC (.int 1))) aNil)))) (tgN 1)) (en := [.sh (.lst (xs.map FD)), .sh (.int 1), .un, .un, .un, .un]) (s := s) (s1 := s)
    (fun pre en s' => ∃ y : DL.Slot, y.own = false ∧ en = [.sh (.lst (xs.map FD)), .sh (.int (lcmQ pre)), y, .un, .un, .un] ∧ s' = s) rfl ⟨_, rfl, rfl, rfl⟩ (by
      rintro pre x post en s' e ⟨y, _, rfl, rfl⟩
      have hp : pre.length ≤ 8 := by
        have := congrArg List.length e
        rw [List.length_append, List.length_cons] at this
        omega
      have rp : Rows 60 pre := fun z hz => r z (by rw [e]; exact List.mem_append_left _ hz)
      have h1 := lcmQ_bd' (m := 8) rp hp
      have hx := r.sub e
      have hg0 : (0 : Int) < ((Int.gcd (lcmQ pre) x.2 : Nat) : Int) := by
        have := gcd_pos (a := lcmQ pre) hx.ne
        omega
      have hg := gcd_small (a := lcmQ pre) hx.ne hx.b (by omega)
      refine ⟨_, rfl, [.sh (.lst (xs.map FD)), .sh (.int (lcmQ (pre ++ [x]))), .sh (FD x), .un, .un, .un], s', ?_, _, rfl, rfl, rfl⟩
      simp only [sAsg_ap, eBin_ap, eBor_ap, eC_ap, eCall_ap, aCons_ap, eVar_ap, List.set_cons_succ, List.set_cons_zero, slot_succ, slot_zero, M.bind_ret, aNil_ap, FD, ixD_t1, mulD_bd h1 hx.b (by omega) (by omega)]
      rw [divisor_eq (hx.b.mono (by omega)), M.bind_ret, fdivD_int hg0 hg, M.bind_ret, lcmQ_snoc]
      rfl)
  rw [seq_ok h, e1, e2]
  -- the numbers
  have hlen : (fndQ xs).length ≤ 16777216 := by
    unfold fndQ
    rw [List.length_map]
    omega
  have hb := lcmQ_bd' (m := 8) r hl
  have e3 : xs.map (fun x => D.int (x.1 * (lcmQ xs / x.2))) = (fndQ xs).map D.int := by
    unfold fndQ
    rw [List.map_map]
    rfl
  have hf : eLc (eSeq (eBor 0)) [2] (tgN 2) tvYes (eBin mulD (eBin ixD (eBor 2) (eC (.int 0))) (eBin fdivD (eBor 1) (eBin ixD (eBor 2) (eC (.int 1))))) [.sh (.lst (xs.map FD)), .sh (.int (lcmQ xs)), y, .un, .un, .un] = M.ret (.lst ((fndQ xs).map D.int)) := by
    refine lc_ret (ds := xs.map FD) rfl (by simp [hy]) ?_ (by rw [List.length_map]; exact hlen)
    rw [← e3]
    refine lcL_all fun x hx => ?_
    have px := r x hx
    refine ⟨_, rfl, rfl, ?_⟩
    simp only [eBin_ap, eBor_ap, eC_ap, wipeE_cons, wipeE_nil, List.set_cons_succ, List.set_cons_zero, slot_succ, slot_zero, M.bind_ret, FD, ixD_t0, ixD_t1, fdivD_int px.l.1 (px.b.mono (by omega)), mulD_bd px.a (hb.div (j := x.2)) (by omega) (by omega)]
  have hs : sAsg (eLc (eSeq (eBor 0)) [2] (tgN 2) tvYes (eBin mulD (eBin ixD (eBor 2) (eC (.int 0))) (eBin fdivD (eBor 1) (eBin ixD (eBor 2) (eC (.int 1)))))) (tgN 3) [.sh (.lst (xs.map FD)), .sh (.int (lcmQ xs)), y, .un, .un, .un] s = .ok (.nx [.sh (.lst (xs.map FD)), .sh (.int (lcmQ xs)), y, .sh (.lst ((fndQ xs).map D.int)), .un, .un]) s := by
    rw [sAsg_ap, hf]
    rfl
  rw [seq_ok hs]
  rw [seq_ok (s1 := s) (en1 := [.sh (.lst (xs.map FD)), .sh (.int (lcmQ xs)), y, .sh (.lst ((fndQ xs).map D.int)), .sh (.int 0), .un]) rfl]
  have fb := fndQ_bd (m := 8) r hl
  obtain ⟨en', s', h, y2, hy2, e4, e5⟩ := for_map (enc := D.int) (xs := fndQ xs) (lv := eSeq (eVar 3)) (g := tgN 5) (b := sAsg (eCall m_divisor (aCons (eVar 4) (aCons (eVar 5) aNil))) (tgN 4)) (en := [.sh (.lst (xs.map FD)), .sh (.int (lcmQ xs)), y, .sh (.lst ((fndQ xs).map D.int)), .sh (.int 0), .un]) (s := s) (s1 := s)
    (fun pre en s' => ∃ y2 : DL.Slot, y2.own = false ∧ en = [.sh (.lst (xs.map FD)), .sh (.int (lcmQ xs)), y, .sh (.lst ((fndQ xs).map D.int)), .sh (.int (gcdL pre : Nat)), y2] ∧ s' = s) rfl ⟨_, rfl, rfl, rfl⟩ (by
      rintro pre z post en s' e ⟨y2, _, rfl, rfl⟩
      have hz : Bd (60 + (1 + 8 * 60)) z := fb z (by rw [e]; exact List.mem_append_right _ List.mem_cons_self)
      refine ⟨_, rfl, [.sh (.lst (xs.map FD)), .sh (.int (lcmQ xs)), y, .sh (.lst ((fndQ xs).map D.int)), .sh (.int (gcdL (pre ++ [z]) : Nat)), .sh (.int z)], s', ?_, _, rfl, rfl, rfl⟩
      simp only [sAsg_ap, eCall_ap, aCons_ap, eVar_ap, List.set_cons_succ, List.set_cons_zero, slot_succ, slot_zero, M.bind_ret, aNil_ap]
      rw [divisor_eq (hz.mono (by omega)), gcdL_snoc]
      rfl)
  rw [seq_ok h, e4, e5]
  unfold sclQ
  simp only [sRet_ap, eIf_ap, eT_ap, eBin_ap, eBor_ap, eC_ap, eCall_ap, aCons_ap, aNil_ap, slot_succ, slot_zero, M.bind_ret, eqD_int]
  by_cases h0 : gcdL (fndQ xs) = 0
  · rw [if_pos h0, h0]
    rfl
  · have hne : (((gcdL (fndQ xs) : Nat) : Int) == 0) = false := by
      rw [beq_eq_false_iff_ne]
      omega
    rw [if_neg h0]
    simp only [hne, Bool.false_eq_true, if_false]
    have hgb : Bd (60 + (1 + 8 * 60)) ((gcdL (fndQ xs) : Nat) : Int) := gcdL_bd _ _ (bd0 _) fb
    have hq : eLc (eSeq (eBor 3)) [5] (tgN 5) tvYes (eBin fdivD (eBor 5) (eBor 4)) [.sh (.lst (xs.map FD)), .sh (.int (lcmQ xs)), y, .sh (.lst ((fndQ xs).map D.int)), .sh (.int (gcdL (fndQ xs) : Nat)), y2] = M.ret (.lst ((fndQ xs).map fun n => D.int (n / ((gcdL (fndQ xs) : Nat) : Int)))) := by
      refine lc_ret (ds := (fndQ xs).map D.int) rfl (by simp [hy2]) ?_ (by rw [List.length_map]; exact hlen)
      refine lcL_all fun z hz => ?_
      refine ⟨_, rfl, rfl, ?_⟩
      simp only [eBin_ap, eBor_ap, wipeE_cons, wipeE_nil, List.set_cons_succ, List.set_cons_zero, slot_succ, slot_zero, M.bind_ret, fdivD_int (show (0 : Int) < ((gcdL (fndQ xs) : Nat) : Int) by omega) (hgb.mono (by omega))]
    simp only [hq, M.bind_ret, tupleF_lst, List.map_map]
    rfl
theorem gcd_of_eq {ns : List Int} (h : ∀ z ∈ ns, Bd 200 z) : m__law_gcd_of [.tup (ns.map D.int)] = M.ret (.int (gcdL ns : Nat)) := by
  refine ret_of fun s => run_rt ?_
  unfold v__law_gcd_of
  rw [seq_ok (s1 := s) (en1 := [.sh (.tup (ns.map D.int)), .sh (.int 0), .un]) rfl]
  obtain ⟨en', s', h, y2, e4, e5⟩ := for_map (enc := D.int) (xs := ns) (lv := eSeq (eVar 0)) (g := tgN 2) (b := sAsg (eCall m__law_gcd (aCons (eVar 1) (aCons (eVar 2) aNil))) (tgN 1)) (en := [.sh (.tup (ns.map D.int)), .sh (.int 0), .un]) (s := s) (s1 := s)
    (fun pre en s' => ∃ y2, en = [.sh (.tup (ns.map D.int)), .sh (.int (gcdL pre : Nat)), y2] ∧ s' = s) rfl ⟨_, rfl, rfl⟩ (by
      rintro pre z post en s' e ⟨y2, rfl, rfl⟩
      have hz : Bd 200 z := h z (by rw [e]; exact List.mem_append_right _ List.mem_cons_self)
      refine ⟨_, rfl, [.sh (.tup (ns.map D.int)), .sh (.int (gcdL (pre ++ [z]) : Nat)), .sh (.int z)], s', ?_, _, rfl, rfl⟩
      simp only [sAsg_ap, eCall_ap, aCons_ap, eVar_ap, List.set_cons_succ, List.set_cons_zero, slot_succ, slot_zero, M.bind_ret, aNil_ap]
      rw [law_gcd_eq hz (by omega), gcdL_snoc]
      rfl)
  rw [seq_ok h, e4, e5]
  rfl
end K10

set_option Elab.async false
set_option linter.all false
set_option maxRecDepth 100000
set_option maxHeartbeats 4000000
set_option exponentiation.threshold 100
namespace K10
open PySem PySem.Spec PyProof.Rows L2 DL
/-! ### rows made whole: what the law asks of them -/
theorem scl_len (xs : List (Int × Int)) : (sclQ xs).length = xs.length := by
  unfold sclQ fndQ
  split <;> simp
theorem fnd_key {n : Nat} {xs : List (Int × Int)} (r : Rows n xs) {x : Int × Int} (h : x ∈ xs) : (x.1 * (lcmQ xs / x.2)) * x.2 = x.1 * lcmQ xs := by
  rw [Int.mul_assoc, Int.ediv_mul_cancel ((lcmQ_spec xs r).2 x h)]
theorem scl_key {n : Nat} {xs : List (Int × Int)} (r : Rows n xs) : ∃ S L : Int, 0 < S ∧ 0 < L ∧ ∀ (k : Nat) (x : Int × Int), xs[k]? = some x → ∃ t, (sclQ xs)[k]? = some t ∧ t * S * x.2 = x.1 * L := by
  obtain ⟨hL, _⟩ := lcmQ_spec xs r
  unfold sclQ
  by_cases h0 : gcdL (fndQ xs) = 0
  · rw [if_pos h0]
    refine ⟨1, lcmQ xs, by decide, hL, fun k x hx => ⟨x.1 * (lcmQ xs / x.2), ?_, ?_⟩⟩
    · unfold fndQ
      rw [List.getElem?_map, hx]
      rfl
    · rw [Int.mul_one]
      exact fnd_key r (List.mem_of_getElem? hx)
  · rw [if_neg h0]
    refine ⟨((gcdL (fndQ xs) : Nat) : Int), lcmQ xs, by omega, hL, fun k x hx => ⟨(x.1 * (lcmQ xs / x.2)) / ((gcdL (fndQ xs) : Nat) : Int), ?_, ?_⟩⟩
    · rw [List.getElem?_map]
      unfold fndQ
      rw [List.getElem?_map, hx]
      rfl
    · have hm : x.1 * (lcmQ xs / x.2) ∈ fndQ xs := List.mem_map.mpr ⟨x, List.mem_of_getElem? hx, rfl⟩
      have hd' : ((gcdL (fndQ xs) : Nat) : Int) ∣ x.1 * (lcmQ xs / x.2) := (gcdL_dvd (fndQ xs) 0).2 _ hm
      rw [Int.ediv_mul_cancel hd']
      exact fnd_key r (List.mem_of_getElem? hx)
theorem scl_gcd {n : Nat} {xs : List (Int × Int)} (r : Rows n xs) {x : Int × Int} (hx : x ∈ xs) (h0 : x.1 ≠ 0) : gcdL (sclQ xs) = 1 := by
  obtain ⟨hL, hd⟩ := lcmQ_spec xs r
  have hm : x.1 * (lcmQ xs / x.2) ∈ fndQ xs := List.mem_map.mpr ⟨x, hx, rfl⟩
  have hq : lcmQ xs / x.2 ≠ 0 := fun z => by
    have e := Int.ediv_mul_cancel (hd x hx)
    rw [z, Int.zero_mul] at e
    omega
  have hg : gcdL (fndQ xs) ≠ 0 := gcdL_pos (fndQ xs) 0 _ hm (Int.mul_ne_zero h0 hq)
  have e : sclQ xs = (fndQ xs).map fun n => n / ((gcdL (fndQ xs) : Nat) : Int) := by
    unfold sclQ
    rw [if_neg hg]
  have h1 : gcdL (sclQ xs) * gcdL (fndQ xs) ∣ gcdL (fndQ xs) := by
    refine dvd_gcdL (fndQ xs) 0 _ (Nat.dvd_zero _) fun z hz => ?_
    have hz1 : z / ((gcdL (fndQ xs) : Nat) : Int) ∈ sclQ xs := by
      rw [e]
      exact List.mem_map.mpr ⟨z, hz, rfl⟩
    have hz2 := (gcdL_dvd (sclQ xs) 0).2 _ hz1
    have hz3 : z / ((gcdL (fndQ xs) : Nat) : Int) * ((gcdL (fndQ xs) : Nat) : Int) = z := Int.ediv_mul_cancel ((gcdL_dvd (fndQ xs) 0).2 _ hz)
    have hz4 := Int.mul_dvd_mul hz2 (Int.dvd_refl ((gcdL (fndQ xs) : Nat) : Int))
    rw [hz3] at hz4
    rw [Int.natCast_mul]
    exact hz4
  have h2 := Nat.le_of_dvd (Nat.pos_of_ne_zero hg) h1
  have h3 : gcdL (sclQ xs) ≠ 0 := fun z => by
    rw [z, Nat.zero_mul] at h1
    exact hg (Nat.eq_zero_of_zero_dvd h1)
  have h4 : gcdL (sclQ xs) * gcdL (fndQ xs) ≤ 1 * gcdL (fndQ xs) := by omega
  have := Nat.le_of_mul_le_mul_right h4 (Nat.pos_of_ne_zero hg)
  omega
/-- two of them are as their parts -/
theorem scl_two {n : Nat} {xs : List (Int × Int)} (r : Rows n xs) {k j : Nat} {x y : Int × Int} {t u : Int} (hx : xs[k]? = some x) (hy : xs[j]? = some y) (ht : (sclQ xs)[k]? = some t) (hu : (sclQ xs)[j]? = some u) : mkF (t * y.1) (1 * y.2) = mkF (u * x.1) (1 * x.2) := by
  obtain ⟨S, L, hS, hL, h⟩ := scl_key r
  obtain ⟨t', ht', e1⟩ := h k x hx
  obtain ⟨u', hu', e2⟩ := h j y hy
  rw [ht] at ht'
  cases ht'
  rw [hu] at hu'
  cases hu'
  have x0 := (r x (List.mem_of_getElem? hx)).ne
  have y0 := (r y (List.mem_of_getElem? hy)).ne
  rw [Int.one_mul, Int.one_mul]
  refine mkF_eq y0 x0 (Int.eq_of_mul_eq_mul_right (show S ≠ 0 by omega) ?_)
  calc t * y.1 * x.2 * S = (t * S * x.2) * y.1 := by rw [Int.mul_right_comm t S, Int.mul_right_comm t y.1, Int.mul_assoc (t * x.2), Int.mul_assoc (t * x.2), Int.mul_comm S]
    _ = (x.1 * L) * y.1 := by rw [e1]
    _ = (y.1 * L) * x.1 := by rw [Int.mul_right_comm, Int.mul_comm x.1 y.1, Int.mul_right_comm y.1 L]
    _ = (u * S * y.2) * x.1 := by rw [e2]
    _ = u * x.1 * y.2 * S := by rw [Int.mul_right_comm u S, Int.mul_right_comm u x.1, Int.mul_assoc (u * y.2), Int.mul_assoc (u * y.2), Int.mul_comm S]
theorem scl_sign {n : Nat} {xs : List (Int × Int)} (r : Rows n xs) {k : Nat} {x : Int × Int} {t : Int} (hx : xs[k]? = some x) (ht : (sclQ xs)[k]? = some t) : (0 < t ↔ 0 < x.1) ∧ (t < 0 ↔ x.1 < 0) := by
  obtain ⟨S, L, hS, hL, h⟩ := scl_key r
  obtain ⟨t', ht', e1⟩ := h k x hx
  rw [ht] at ht'
  cases ht'
  have hp : 0 < S * x.2 := Int.mul_pos hS (r x (List.mem_of_getElem? hx)).l.1
  rw [Int.mul_assoc] at e1
  have sgn : ∀ {a b : Int}, 0 < b → ((0 < a * b ↔ 0 < a) ∧ (a * b < 0 ↔ a < 0)) := fun {a b} hb => by
    refine ⟨⟨fun z => ?_, fun z => Int.mul_pos z hb⟩, ⟨fun z => ?_, fun z => Int.mul_neg_of_neg_of_pos z hb⟩⟩
    · by_cases q : 0 < a
      · exact q
      · have := Int.mul_nonpos_of_nonpos_of_nonneg (show a ≤ 0 by omega) (Int.le_of_lt hb)
        omega
    · by_cases q : a < 0
      · exact q
      · have := Int.mul_nonneg (show 0 ≤ a by omega) (Int.le_of_lt hb)
        omega
  obtain ⟨a1, a2⟩ := sgn (a := t) hp
  obtain ⟨b1, b2⟩ := sgn (a := x.1) hL
  rw [e1] at a1 a2
  exact ⟨a1.symm.trans b1, a2.symm.trans b2⟩
/-! ### draws -/
theorem pick_ok {ns : List Int} {s : LS} (h : StG s) (h0 : 0 < ns.length) (h1 : ns.length < 2 ^ 60) : ∃ n s', m__law_pick [.stt, .lst (ns.map D.int)] s = .ok (.int n) s' ∧ StG s' ∧ n ∈ ns := by
  have hb : Bd 8000 ((ns.length : Nat) : Int) := by
    have : Bd 60 ((ns.length : Nat) : Int) := by
      unfold Bd
      rw [Int.natAbs_natCast]
      exact h1
    exact this.mono (by decide)
  obtain ⟨r, s', e, g, hr0, hr1⟩ := take_ok h hb
  have hr := hr1 (by omega)
  obtain ⟨j, rfl⟩ : ∃ j : Nat, r = (j : Int) := ⟨r.toNat, by omega⟩
  have hj : j < ns.length := by omega
  refine ⟨ns[j], s', run_rt ?_, g, List.getElem_mem hj⟩
  unfold v__law_pick
  simp only [List.map_cons, List.map_nil, List.replicate, List.append_nil, sRet_ap, eBin_ap, eBor_ap, eCall_ap, aCons_ap, aNil_ap, eVar_ap, slot_zero, slot_succ, M.bind_ret, lenF_lst, List.length_map, M.bind_assoc, List.cons_append, List.nil_append]
  rw [M.bind_ok e, ixD_lst (d := .int ns[j]) (by rw [List.getElem?_map, List.getElem?_eq_getElem hj]; rfl)]
  rfl
/-- a drawn part -/
structure Drawn (x : Int × Int) : Prop where
  p : PB 41 x
  b : Bd 13 x.2
theorem bd_le {n : Nat} {i : Int} (m : Int) (h1 : -m ≤ i) (h2 : i ≤ m) (h3 : m.natAbs < 2 ^ n) : Bd n i := by
  unfold Bd
  omega
theorem part_ok {s : LS} (h : StG s) : ∃ x s', m__law_part [.stt] s = .ok (FD x) s' ∧ StG s' ∧ Drawn x := by
  obtain ⟨top, s1, e1, g1, ht⟩ := pick_ok (ns := [3, 30, 10000, 1000000000000]) h (by decide) (by decide)
  have ht0 : 3 ≤ top ∧ top ≤ 1000000000000 := by
    simp only [List.mem_cons, List.not_mem_nil, or_false] at ht
    omega
  obtain ⟨a, s2, e2, g2, ha0, ha1⟩ := take_ok (most := 2 * top + 1) g1 ((bd_le (n := 60) 3000000000000 (by omega) (by omega) (by decide)).mono (by decide))
  have ha := ha1 (by omega)
  obtain ⟨m, s3, e3, g3, hm⟩ := pick_ok (ns := [1, 6, 5000]) g2 (by decide) (by decide)
  have hm0 : 1 ≤ m ∧ m ≤ 5000 := by
    simp only [List.mem_cons, List.not_mem_nil, or_false] at hm
    omega
  obtain ⟨b, s4, e4, g4, hb0, hb1⟩ := take_ok (most := m) g3 ((bd_le (n := 60) 5000 (by omega) (by omega) (by decide)).mono (by decide))
  have hb := hb1 (by omega)
  have hA : Bd 41 (a - top) := bd_le 1000000000000 (by omega) (by omega) (by decide)
  have hB : Bd 13 (1 + b) := bd_le 5000 (by omega) (by omega) (by decide)
  have hB0 : (1 + b : Int) ≠ 0 := by omega
  refine ⟨mkF (a - top) (1 + b), s4, run_rt ?_, g4, ⟨PB.of hB0 hA (hB.mono (by decide)), ?_⟩⟩
  · unfold v__law_part
    have eL : ∀ (en : DL.Env), eLst (aCons (eC (.int 3)) (aCons (eC (.int 30)) (aCons (eC (.int 10000)) (aCons (eC (.int 1000000000000)) aNil)))) en = M.ret (.lst ([3, 30, 10000, 1000000000000].map D.int)) := fun _ => rfl
    have eL2 : ∀ (en : DL.Env), eLst (aCons (eC (.int 1)) (aCons (eC (.int 6)) (aCons (eC (.int 5000)) aNil))) en = M.ret (.lst ([1, 6, 5000].map D.int)) := fun _ => rfl
    have c1 : sAsg (eCall m__law_pick (aCons (eVar 0) (aCons (eLst (aCons (eC (.int 3)) (aCons (eC (.int 30)) (aCons (eC (.int 10000)) (aCons (eC (.int 1000000000000)) aNil))))) aNil))) (tgN 1) [.sh .stt, .un] s = .ok (.nx [.sh .stt, .sh (.int top)]) s1 := by
      simp only [sAsg_ap, eCall_ap, aCons_ap, aNil_ap, eVar_ap, slot_zero, M.bind_ret, eL]
      rw [M.bind_ok e1]
      rfl
    rw [show (List.map DL.Slot.sh [D.stt] ++ List.replicate (2 - 1) DL.Slot.un) = [.sh .stt, .un] from rfl, seq_ok c1]
    have em : mulD (.int 2) (.int top) = M.ret (.int (2 * top)) := mulD_int rfl
    simp only [sRet_ap, eCall_ap, aCons_ap, aNil_ap, eVar_ap, eBin_ap, eBor_ap, eC_ap, slot_zero, slot_succ, M.bind_ret, em, addD_int, M.bind_assoc, eL2]
    rw [M.bind_ok e2]
    simp only [subD_int, M.bind_ret]
    rw [M.bind_ok e3, M.bind_ok e4]
    simp only [addD_int, M.bind_ret]
    rw [law_fr_eq hB0 hB (by decide)]
    rfl
  · exact (mkF_bd' hB)
end K10

set_option Elab.async false
set_option linter.all false
set_option maxRecDepth 100000
set_option maxHeartbeats 4000000
set_option exponentiation.threshold 100
namespace K10
open PySem PySem.Spec PyProof.Rows L2 DL
/-! ### what is a part -/
/-- whether data is a part -/
def isP : D → Bool
  | .tup [.int a, .int b] => decide (1 ≤ b) && (Int.gcd a b == 1)
  | _ => false
def NoS (d : D) : Prop := d.isS = false
theorem all_int (ds : List D) (h : ∀ d ∈ ds, NoS d) (d0 : DL.Slot) : lcL (tgN 1) tvYes (eAnd (eIsi "int" (eBor 1)) (eNot (eIsi "bool" (eBor 1)))) [d0, .un] ds = M.ret (ds.map fun d => .bl d.isI) := by
  have := lcL_all (enc := id) (g := tgN 1) (t := tvYes) (e := eAnd (eIsi "int" (eBor 1)) (eNot (eIsi "bool" (eBor 1)))) (en := [d0, .un]) (f := fun d => .bl d.isI) (xs := ds) fun d hd => by
    refine ⟨_, rfl, rfl, ?_⟩
    simp only [eAnd_ap, eIsi_ap, eNot_ap, eBor_ap, List.set_cons_succ, List.set_cons_zero, slot_succ, slot_zero, M.bind_ret, id_eq, isiD_int (h d hd), isiD_bool (h d hd)]
    cases d <;> rfl
  rw [List.map_id] at this
  exact this
theorem no_int (ds : List D) (h : ∀ d ∈ ds, NoS d) (d0 : DL.Slot) : lcL (tgN 1) (tvOr (tvNot (eT (eIsi "int" (eBor 1)))) (eT (eIsi "bool" (eBor 1)))) (eVar 1) [d0, .un] ds = M.ret (ds.filter fun d => !d.isI) := by
  have := lcL_map (enc := id) (g := tgN 1) (t := tvOr (tvNot (eT (eIsi "int" (eBor 1)))) (eT (eIsi "bool" (eBor 1)))) (e := eVar 1) (en := [d0, .un]) (p := fun d => !d.isI) (f := id) (xs := ds) fun d hd => by
    refine ⟨_, rfl, ?_, fun _ => rfl⟩
    simp only [tvOr_ap, tvNot_ap, eT_ap, eIsi_ap, eBor_ap, List.set_cons_succ, List.set_cons_zero, slot_succ, slot_zero, M.bind_ret, id_eq, isiD_int (h d hd), isiD_bool (h d hd)]
    cases d <;> rfl
  rw [List.map_id, List.map_id] at this
  exact this
theorem bls_bl (ds : List D) : D.bls (ds.map fun d => D.bl d.isI) = some (ds.map D.isI) := by
  have := D.bls_map (ds.map D.isI)
  rw [List.map_map] at this
  exact this
/-- the second number small, where both are numbers -/
structure Sml (v : D) : Prop where
  s : NoS v
  t : ∀ ds, v = .tup ds → ∀ d ∈ ds, NoS d
  n : ∀ a b, v = .tup [.int a, .int b] → Bd 200 b
theorem n0lt : decide ((0 : Int) < ((0 : Nat) : Int)) = false := by decide
theorem n2eq : (!(((0 + 1 + 1 : Nat) : Int) == 2)) = false := by decide
theorem is_part_eq {v : D} (h : Sml v) : m_is_part [v] = M.ret (.bl (isP v)) ∧ m__law_is [v] = M.ret (.bl (isP v)) := by
  have hS : v.isS = false := h.s
  by_cases ht : v.isTup = true
  · obtain ⟨ds, rfl⟩ : ∃ ds, v = .tup ds := by
      cases v <;> first | exact ⟨_, rfl⟩ | cases ht
    by_cases hl : ds.length = 2
    · obtain ⟨u, w, rfl⟩ : ∃ u w, ds = [u, w] := by
        match ds, hl with
        | [u, w], _ => exact ⟨u, w, rfl⟩
      have hn := h.t _ rfl
      have a1 := all_int [u, w] hn (.sh (.tup [u, w]))
      have a2 := no_int [u, w] hn (.sh (.tup [u, w]))
      have l1 : eLc (eSeq (eBor 0)) [1] (tgN 1) tvYes (eAnd (eIsi "int" (eBor 1)) (eNot (eIsi "bool" (eBor 1)))) [.sh (.tup [u, w]), .un] = M.ret (.lst ([u, w].map fun d => .bl d.isI)) := lc_ret (ds := [u, w]) rfl rfl a1 (by rw [List.length_map]; show 2 ≤ 16777216; decide)
      have l2 : eLc (eSeq (eBor 0)) [1] (tgN 1) (tvOr (tvNot (eT (eIsi "int" (eBor 1)))) (eT (eIsi "bool" (eBor 1)))) (eVar 1) [.sh (.tup [u, w]), .un] = M.ret (.lst ([u, w].filter fun d => !d.isI)) := lc_ret (ds := [u, w]) rfl rfl a2 (Nat.le_trans (List.length_filter_le _ _) (by show 2 ≤ 16777216; decide))
      have al : allF [.lst ([u, w].map fun d => .bl d.isI)] = M.ret (.bl (u.isI && w.isI)) := by
        have := allF_map [u.isI, w.isI]
        simp only [List.map_cons, List.map_nil, List.all_cons, List.all_nil, id_eq, Bool.and_true] at this
        exact this
      have it := isiD_tup (d := .tup [u, w]) rfl
      by_cases hi : (u.isI && w.isI) = true
      · rw [Bool.and_eq_true] at hi
        obtain ⟨a, rfl⟩ : ∃ a, u = .int a := by
          cases u <;> first | exact ⟨_, rfl⟩ | cases hi.1
        obtain ⟨b, rfl⟩ : ∃ b, w = .int b := by
          cases w <;> first | exact ⟨_, rfl⟩ | cases hi.2
        have hb : Bd 200 b := h.n a b rfl
        refine ⟨run_ret ?_, run_ret ?_⟩
        · unfold v_is_part
          simp only [List.map_cons, List.map_nil, List.replicate, List.append_nil, List.cons_append, List.nil_append, sSeq_ap, sIf_ap, tvOr_ap, tvNot_ap, eT_ap, eIsi_ap, eBor_ap, slot_zero, M.bind_ret, it, D.isTup, Bool.not_true, Bool.false_eq_true, if_false, eBin_ap, eCall_ap, aCons_ap, aNil_ap, lenF_tup, eC_ap, neD_int, List.length_cons, List.length_nil, n2eq, sNil_ap]
          rw [l1]
          simp only [M.bind_ret, al]
          simp only [M.bind_ret, sRet_ap, D.isI, Bool.and_self, Bool.not_true, Bool.false_eq_true, if_false, sNil_ap, eAnd_ap, eBin_ap, eBor_ap, eC_ap, slot_zero, ixD_t1, ixD_t0, geD_int, eCall_ap, aCons_ap, aNil_ap]
          rw [divisor_eq (hb.mono (by decide))]
          simp only [M.bind_ret, eqD_int]
          unfold isP
          have e : (((Int.gcd a b : Nat) : Int) == 1) = (Int.gcd a b == 1) := by
            rw [Bool.eq_iff_iff, beq_iff_eq, beq_iff_eq]
            omega
          by_cases h1 : 1 ≤ b
          · simp only [decide_eq_true h1, Bool.true_and, M.bind_ret, e]
          · simp only [decide_eq_false h1, Bool.false_and, M.bind_ret]
        · unfold v__law_is
          simp only [List.map_cons, List.map_nil, List.replicate, List.append_nil, List.cons_append, List.nil_append, sSeq_ap, sIf_ap, tvOr_ap, tvNot_ap, eT_ap, eIsi_ap, eBor_ap, slot_zero, M.bind_ret, it, D.isTup, Bool.not_true, Bool.false_eq_true, if_false, eBin_ap, eCall_ap, aCons_ap, aNil_ap, lenF_tup, eC_ap, neD_int, List.length_cons, List.length_nil, n2eq, sNil_ap]
          rw [l2]
          simp only [List.filter_cons, List.filter_nil, D.isI, Bool.not_true, Bool.false_eq_true, if_false, M.bind_ret, lenF_lst, List.length_nil, gtD_int, n0lt, sRet_ap, sNil_ap, eAnd_ap, eBin_ap, eBor_ap, eC_ap, slot_zero, ixD_t1, ixD_t0, eCall_ap, aCons_ap, aNil_ap]
          rw [law_gcd_eq hb (by decide)]
          simp only [M.bind_ret, eqD_int]
          unfold isP
          have e0 : decide ((0 : Int) < b) = decide (1 ≤ b) := by
            rw [Bool.eq_iff_iff, decide_eq_true_iff, decide_eq_true_iff]
            omega
          rw [e0]
          have e : (((Int.gcd a b : Nat) : Int) == 1) = (Int.gcd a b == 1) := by
            rw [Bool.eq_iff_iff, beq_iff_eq, beq_iff_eq]
            omega
          by_cases h1 : 1 ≤ b
          · simp only [decide_eq_true h1, Bool.true_and, M.bind_ret, e]
          · simp only [decide_eq_false h1, Bool.false_and, M.bind_ret]
      · have hi' : (u.isI && w.isI) = false := by simpa using hi
        have eP : isP (.tup [u, w]) = false := by
          unfold isP
          split
          · rename_i a b e
            cases e
            cases hi'
          · rfl
        rw [eP]
        refine ⟨run_ret ?_, run_ret ?_⟩
        · unfold v_is_part
          simp only [List.map_cons, List.map_nil, List.replicate, List.append_nil, List.cons_append, List.nil_append, sSeq_ap, sIf_ap, tvOr_ap, tvNot_ap, eT_ap, eIsi_ap, eBor_ap, slot_zero, M.bind_ret, it, D.isTup, Bool.not_true, Bool.false_eq_true, if_false, eBin_ap, eCall_ap, aCons_ap, aNil_ap, lenF_tup, eC_ap, neD_int, List.length_cons, List.length_nil, n2eq, sNil_ap]
          rw [l1]
          simp only [M.bind_ret, al, hi', Bool.not_false, if_true, sRet_ap, eC_ap]
        · unfold v__law_is
          simp only [List.map_cons, List.map_nil, List.replicate, List.append_nil, List.cons_append, List.nil_append, sSeq_ap, sIf_ap, tvOr_ap, tvNot_ap, eT_ap, eIsi_ap, eBor_ap, slot_zero, M.bind_ret, it, D.isTup, Bool.not_true, Bool.false_eq_true, if_false, eBin_ap, eCall_ap, aCons_ap, aNil_ap, lenF_tup, eC_ap, neD_int, List.length_cons, List.length_nil, n2eq, sNil_ap]
          rw [l2]
          have hlen : decide ((0 : Int) < ((([u, w].filter fun d => !d.isI).length : Nat) : Int)) = true := by
            refine decide_eq_true ?_
            have : 0 < ([u, w].filter fun d => !d.isI).length := by
              rw [List.length_pos_iff_exists_mem]
              cases hu : u.isI with
              | false => exact ⟨u, List.mem_filter.mpr ⟨List.mem_cons_self, by rw [hu]; rfl⟩⟩
              | true =>
                rw [hu, Bool.true_and] at hi'
                exact ⟨w, List.mem_filter.mpr ⟨List.mem_cons_of_mem _ List.mem_cons_self, by rw [hi']; rfl⟩⟩
            omega
          simp only [M.bind_ret, lenF_lst, gtD_int, hlen, if_true, sRet_ap, eC_ap]
    · have eP : isP (.tup ds) = false := by
        unfold isP
        split
        · rename_i a b e
          cases e
          exact absurd rfl hl
        · rfl
      rw [eP]
      have hne : (!((ds.length : Int) == 2)) = true := by
        rw [Bool.not_eq_true', beq_eq_false_iff_ne]
        omega
      have it := isiD_tup (d := .tup ds) rfl
      refine ⟨run_ret ?_, run_ret ?_⟩
      · unfold v_is_part
        simp only [List.map_cons, List.map_nil, List.replicate, List.append_nil, List.cons_append, List.nil_append, sSeq_ap, sIf_ap, tvOr_ap, tvNot_ap, eT_ap, eIsi_ap, eBor_ap, slot_zero, M.bind_ret, it, D.isTup, Bool.not_true, Bool.false_eq_true, if_false, eBin_ap, eCall_ap, aCons_ap, aNil_ap, lenF_tup, eC_ap, neD_int, hne, if_true, sRet_ap]
      · unfold v__law_is
        simp only [List.map_cons, List.map_nil, List.replicate, List.append_nil, List.cons_append, List.nil_append, sSeq_ap, sIf_ap, tvOr_ap, tvNot_ap, eT_ap, eIsi_ap, eBor_ap, slot_zero, M.bind_ret, it, D.isTup, Bool.not_true, Bool.false_eq_true, if_false, eBin_ap, eCall_ap, aCons_ap, aNil_ap, lenF_tup, eC_ap, neD_int, hne, if_true, sRet_ap]
  · have ht' : v.isTup = false := by simpa using ht
    have eP : isP v = false := by
      unfold isP
      split
      · cases ht'
      · rfl
    rw [eP]
    have it := isiD_tup (d := v) hS
    rw [ht'] at it
    refine ⟨run_ret ?_, run_ret ?_⟩
    · unfold v_is_part
      simp only [List.map_cons, List.map_nil, List.replicate, List.append_nil, List.cons_append, List.nil_append, sSeq_ap, sIf_ap, tvOr_ap, tvNot_ap, eT_ap, eIsi_ap, eBor_ap, slot_zero, M.bind_ret, it, Bool.not_false, if_true, sRet_ap, eC_ap]
    · unfold v__law_is
      simp only [List.map_cons, List.map_nil, List.replicate, List.append_nil, List.cons_append, List.nil_append, sSeq_ap, sIf_ap, tvOr_ap, tvNot_ap, eT_ap, eIsi_ap, eBor_ap, slot_zero, M.bind_ret, it, Bool.not_false, if_true, sRet_ap, eC_ap]
end K10

set_option Elab.async false
set_option linter.all false
set_option maxRecDepth 100000
set_option maxHeartbeats 4000000
set_option exponentiation.threshold 100
namespace K10
open PySem PySem.Spec PyProof.Rows L2 DL
/-! ### tuples of parts -/
def areP (v : D) (many : Int) : Bool := match v with
  | .tup ds => ((ds.length : Int) == many) && ds.all isP
  | _ => false
structure SmlT (v : D) : Prop where
  s : NoS v
  t : ∀ ds, v = .tup ds → ds.length ≤ 1000 ∧ ∀ d ∈ ds, Sml d
theorem are_parts_eq {v : D} {many : Int} (h : SmlT v) : m_are_parts [v, .int many] = M.ret (.bl (areP v many)) := by
  refine run_ret ?_
  unfold v_are_parts
  simp only [List.map_cons, List.map_nil, List.replicate, List.append_nil, List.cons_append, List.nil_append, sRet_ap, eAnd_ap, eIsi_ap, eBor_ap, slot_zero, M.bind_ret, isiD_tup (d := v) h.s]
  cases v with
  | tup ds =>
    obtain ⟨hl, hd⟩ := h.t ds rfl
    simp only [D.isTup, eBin_ap, eCall_ap, aCons_ap, aNil_ap, eBor_ap, slot_zero, slot_succ, M.bind_ret, lenF_tup, eqD_int, M.bind_assoc]
    unfold areP
    by_cases hm : ((ds.length : Int) == many) = true
    · have e1 : eLc (eSeq (eBor 0)) [2] (tgN 2) tvYes (eCall m_is_part (aCons (eVar 2) aNil)) [.sh (.tup ds), .sh (.int many), .un] = M.ret (.lst ((ds.map isP).map D.bl)) := by
        refine lc_ret (ds := ds) rfl rfl ?_ (by rw [List.length_map, List.length_map]; omega)
        have := lcL_all (enc := id) (g := tgN 2) (t := tvYes) (e := eCall m_is_part (aCons (eVar 2) aNil)) (en := [.sh (.tup ds), .sh (.int many), .un]) (f := fun d => .bl (isP d)) (xs := ds) fun d hd' => by
          refine ⟨_, rfl, rfl, ?_⟩
          simp only [eCall_ap, aCons_ap, aNil_ap, eVar_ap, List.set_cons_succ, List.set_cons_zero, slot_succ, slot_zero, M.bind_ret, id_eq]
          exact (is_part_eq (hd d hd')).1
        rw [List.map_id] at this
        rw [List.map_map]
        exact this
      have e2 : (ds.map isP).all id = ds.all isP := by
        rw [List.all_map]
        rfl
      simp only [hm, e1, M.bind_ret, allF_map, Bool.true_and, e2]
    · have hm' : ((ds.length : Int) == many) = false := by simpa using hm
      simp only [hm', M.bind_ret, Bool.false_and]
  | _ => rfl
/-! ### a row times a row -/
def itm (ns : List Int) (xs : List (Int × Int)) (k : Nat) : Int × Int := mulQ (xs.getD k (0, 1)) (ns.getD k 0, 1)
theorem pb_int {n : Nat} {i : Int} (h : Bd n i) (h0 : 0 < n) : PB n (i, 1) := ⟨⟨by show (0 : Int) < 1; decide, by show Int.gcd i 1 = 1; exact Int.gcd_one_right i⟩, h, (by show (1 : Int).natAbs < 2 ^ 1; decide : Bd 1 1).mono h0⟩
theorem getD_of {α : Type} {xs : List α} {k : Nat} (h : k < xs.length) (d : α) : xs.getD k d = xs[k] := by
  rw [List.getD_eq_getElem?_getD, List.getElem?_eq_getElem h]
  rfl
theorem itm_pb {ns : List Int} {xs : List (Int × Int)} (hn : ∀ n ∈ ns, Bd 5 n) (r : Rows 41 xs) (hl : ns.length = xs.length) {k : Nat} (hk : k < ns.length) : PB 60 (itm ns xs k) := by
  unfold itm
  rw [getD_of (by omega), getD_of (by omega)]
  exact (mulQ_pb (r _ (List.getElem_mem (by omega))) (pb_int (hn _ (List.getElem_mem hk)) (by decide))).mono (by decide)
theorem dot_eq {ns : List Int} {xs : List (Int × Int)} (hn : ∀ n ∈ ns, Bd 5 n) (r : Rows 41 xs) (hl : ns.length = xs.length) (h8 : xs.length ≤ 8) : m_dot [.lst (ns.map D.int), .lst (xs.map FD)] = M.ret (FD (totQ ((List.range ns.length).map (itm ns xs)))) := by
  refine run_ret ?_
  unfold v_dot
  have hr := rngD_nat ns.length (Nat.lt_of_le_of_lt (show ns.length ≤ 8 by omega) (by decide))
  have e1 : eLc (eRng (aCons (eCall lenF (aCons (eBor 0) aNil)) aNil)) [2] (tgN 2) tvYes (eCall m_times (aCons (eBin ixD (eBor 1) (eBor 2)) (aCons (eTup (aCons (eBin ixD (eBor 0) (eBor 2)) (aCons (eC (.int 1)) aNil))) aNil))) [.sh (.lst (ns.map D.int)), .sh (.lst (xs.map FD)), .un] = M.ret (.lst (((List.range ns.length).map (itm ns xs)).map FD)) := by
    refine lc_ret (ds := (List.range ns.length).map fun (k : Nat) => D.int (k : Int)) ?_ rfl ?_ (by rw [List.length_map, List.length_map, List.length_range]; omega)
    · simp only [eRng_ap, aCons_ap, eCall_ap, eBor_ap, slot_zero, M.bind_ret, aNil_ap, lenF_lst, List.length_map]
      exact hr
    · rw [List.map_map]
      refine lcL_all fun k hk => ?_
      have hk : k < ns.length := List.mem_range.mp hk
      refine ⟨_, rfl, rfl, ?_⟩
      have g1 : (ns.map D.int)[k]? = some (.int ns[k]) := by rw [List.getElem?_map, List.getElem?_eq_getElem hk]; rfl
      have g2 : (xs.map FD)[k]? = some (FD xs[k]) := by rw [List.getElem?_map, List.getElem?_eq_getElem (by omega)]; rfl
      simp only [eCall_ap, aCons_ap, aNil_ap, eVar_ap, eBor_ap, eBin_ap, eTup_ap, eC_ap, wipeE_cons, wipeE_nil, List.set_cons_succ, List.set_cons_zero, slot_succ, slot_zero, M.bind_ret, ixD_lst g1, ixD_lst g2, List.length_cons, List.length_nil, fits_small _ (by decide : 0 + 1 + 1 ≤ 16777216), if_true]
      have := times_eq (r _ (List.getElem_mem (by omega : k < xs.length))) (pb_int (hn _ (List.getElem_mem hk)) (by decide)) (by decide) (by decide)
      have e3 : itm ns xs k = mulQ (xs[k]'(by omega)) (ns[k], 1) := by
        unfold itm
        rw [getD_of (by omega), getD_of (by omega)]
      rw [← e3] at this
      exact this
  simp only [List.map_cons, List.map_nil, List.replicate, List.append_nil, List.cons_append, List.nil_append, sRet_ap, eCall_ap, aCons_ap, aNil_ap, M.bind_ret]
  rw [e1]
  simp only [M.bind_ret]
  rw [total_eq (fun x hx => by
    obtain ⟨k, hk, rfl⟩ := List.mem_map.mp hx
    exact itm_pb hn r hl (List.mem_range.mp hk)) (by rw [List.length_map, List.length_range]; omega)]
  rfl
/-! ### the law's own inequalities -/
theorem floor_ok {a b : Int} (hb : 0 < b) : ¬ (a < a / b * b) ∧ ¬ ((a / b + 1) * b ≤ a) := by
  have h1 := Int.mul_ediv_add_emod a b
  have h2 := Int.emod_nonneg a (show b ≠ 0 by omega)
  have h3 := Int.emod_lt_of_pos a hb
  rw [Int.mul_comm] at h1
  rw [Int.add_mul, Int.one_mul]
  omega
theorem ceil_ok {a b : Int} (hb : 0 < b) : ¬ ((0 - (0 - a) / b) * b < a) ∧ ¬ (a ≤ (0 - (0 - a) / b - 1) * b) := by
  have h1 := Int.mul_ediv_add_emod (0 - a) b
  have h2 := Int.emod_nonneg (0 - a) (show b ≠ 0 by omega)
  have h3 := Int.emod_lt_of_pos (0 - a) hb
  rw [Int.mul_comm] at h1
  generalize (0 - a) / b = q at *
  have e1 : (0 - q) * b = -(q * b) := by rw [Int.zero_sub, Int.neg_mul]
  have e2 : (0 - q - 1) * b = -(q * b) - b := by rw [Int.sub_mul, e1, Int.one_mul]
  rw [e1, e2]
  omega
/-- a part is less than itself and a bit -/
theorem less_bit {n : Nat} {x : Int × Int} (h : PB n x) : x.1 * (addQ x (1, 1000000)).2 < (addQ x (1, 1000000)).1 * x.2 := by
  have hx : 0 < x.2 := h.l.1
  unfold addQ
  have hb : x.2 * 1000000 ≠ 0 := by omega
  obtain ⟨⟨z0, _⟩, e⟩ := mkF_spec (a := x.1 * 1000000 + 1 * x.2) hb
  have e : (mkF (x.1 * 1000000 + 1 * x.2) (x.2 * 1000000)).1 * (x.2 * 1000000) = (x.1 * 1000000 + 1 * x.2) * (mkF (x.1 * 1000000 + 1 * x.2) (x.2 * 1000000)).2 := e
  show x.1 * (mkF (x.1 * 1000000 + 1 * x.2) (x.2 * 1000000)).2 < (mkF (x.1 * 1000000 + 1 * x.2) (x.2 * 1000000)).1 * x.2
  generalize mkF (x.1 * 1000000 + 1 * x.2) (x.2 * 1000000) = z at *
  have hp : 0 < x.2 * z.2 := Int.mul_pos hx z0
  rw [← Int.mul_assoc, Int.add_mul, Int.one_mul, Int.mul_right_comm x.1 1000000] at e
  omega
theorem over_mul {n : Nat} {x y : Int × Int} (hx : PB n x) (hy : PB n y) (h0 : y.1 ≠ 0) : mkF (x.1 * y.2) (x.2 * y.1) = mulQ x (mkF y.2 y.1) := by
  obtain ⟨⟨z0, _⟩, e⟩ := mkF_spec (a := y.2) h0
  unfold mulQ
  generalize mkF y.2 y.1 = z at *
  refine mkF_eq (Int.mul_ne_zero hx.ne h0) (Int.mul_ne_zero hx.ne (by omega)) ?_
  calc x.1 * y.2 * (x.2 * z.2) = (y.2 * z.2) * (x.1 * x.2) := by ac_rfl
    _ = (z.1 * y.1) * (x.1 * x.2) := by rw [e]
    _ = x.1 * z.1 * (x.2 * y.1) := by ac_rfl
end K10

set_option Elab.async false
set_option linter.all false
set_option maxRecDepth 100000
set_option maxHeartbeats 4000000
set_option exponentiation.threshold 100
namespace K10
open PySem PySem.Spec PyProof.Rows L2 DL
/-! ### the law, statement by statement -/
abbrev S := DL.Slot
def LE (x1 x2 x3 : Int × Int) (a b : Int) (k row wh ls n lo hi td j nu su va ro ma : S) : DL.Env := [.un, .sh .stt, .sh (FD x1), .sh (FD x2), .sh (FD x3), .sh (.int a), .sh (.int b), k, row, wh, ls, n, lo, hi, td, j, nu, su, va, ro, ma]
def env0 : DL.Env := [.un, .sh .stt, .un, .un, .un, .un, .un, .un, .un, .un, .un, .un, .un, .un, .un, .un, .un, .un, .un, .un, .un]
theorem law0 {s : LS} (h : StG s) : ∃ x1 x2 x3 s', (∃ en, L_0 env0 s = .ok (.nx en) s' ∧ en = [.un, .sh .stt, .sh (FD x1), .sh (FD x2), .sh (FD x3), .un, .un, .un, .un, .un, .un, .un, .un, .un, .un, .un, .un, .un, .un, .un, .un]) ∧ StG s' ∧ Drawn x1 ∧ Drawn x2 ∧ Drawn x3 := by
  obtain ⟨x1, s1, e1, g1, d1⟩ := part_ok h
  obtain ⟨x2, s2, e2, g2, d2⟩ := part_ok g1
  obtain ⟨x3, s3, e3, g3, d3⟩ := part_ok g2
  refine ⟨x1, x2, x3, s3, ⟨_, ?_, rfl⟩, g3, d1, d2, d3⟩
  unfold L_0 env0
  simp only [sPar3_ap, aCons_ap, aNil_ap, eCall_ap, eVar_ap, slot_succ, slot_zero, M.bind_ret, M.bind_assoc]
  rw [M.bind_ok e1, M.bind_ok e2, M.bind_ok e3]
  rfl
theorem law1 {x1 x2 x3 : Int × Int} {s : LS} (h : StG s) : ∃ a b s', L_1 [.un, .sh .stt, .sh (FD x1), .sh (FD x2), .sh (FD x3), .un, .un, .un, .un, .un, .un, .un, .un, .un, .un, .un, .un, .un, .un, .un, .un] s = .ok (.nx (LE x1 x2 x3 a b .un .un .un .un .un .un .un .un .un .un .un .un .un .un)) s' ∧ StG s' ∧ Bd 12 a ∧ Bd 12 b := by
  have hb : Bd 8000 2001 := (bd_le (n := 12) 2001 (by decide) (by decide) (by decide)).mono (by decide)
  obtain ⟨a, s1, e1, g1, ha0, ha1⟩ := take_ok h hb
  obtain ⟨b, s2, e2, g2, hb0, hb1⟩ := take_ok g1 hb
  have ha2 := ha1 (by decide)
  have hb2 := hb1 (by decide)
  refine ⟨a - 1000, b - 1000, s2, ?_, g2, bd_le 1000 (by omega) (by omega) (by decide), bd_le 1000 (by omega) (by omega) (by decide)⟩
  unfold L_1 LE
  simp only [sPar2_ap, aCons_ap, aNil_ap, eCall_ap, eVar_ap, eBin_ap, eC_ap, slot_succ, slot_zero, M.bind_ret, M.bind_assoc]
  rw [M.bind_ok e1]
  simp only [subD_int, M.bind_ret]
  rw [M.bind_ok e2]
  simp only [subD_int, M.bind_ret]
  rfl
theorem sFD (x : Int × Int) : shal 40 (FD x) = true := rfl
section
variable {x1 x2 x3 : Int × Int} {a b : Int} {k row wh ls n lo hi td j nu su va ro ma : S} {s : LS}
theorem law2 (ha : Bd 12 a) (hb : Bd 12 b) : L_2 (LE x1 x2 x3 a b k row wh ls n lo hi td j nu su va ro ma) = M.ret (.nx (LE x1 x2 x3 a b k row wh ls n lo hi td j nu su va ro ma)) := by
  unfold L_2 LE
  have h0 := divisor_eq (a := 0) (b := 0) (bd0 _)
  have h7 : m_part [.int 0, .int 7] = M.ret (FD (0, 1)) := by
    rw [part_eq (n := 3) (by decide) (by show (7 : Int).natAbs < 2 ^ 3; decide) (by decide)]
    rfl
  simp only [sIf_ap, tvOr_ap, tvAnd_ap, eT_ap, eBin_ap, eCall_ap, aCons_ap, aNil_ap, eVar_ap, eBor_ap, eC_ap, slot_succ, slot_zero, M.bind_ret]
  rw [divisor_eq (hb.mono (by decide)), law_gcd_eq hb (by decide), h0, h7]
  have hz : ∀ z : Int, (!(z == z)) = false := fun z => by simp
  by_cases b0 : b = 0
  · subst b0
    simp only [M.bind_ret, neD_int, hz, Bool.false_eq_true, if_false, eTup_ap, aCons_ap, aNil_ap, eC_ap]
    rfl
  · have hn : (!(b == 0)) = true := by simp [b0]
    rw [part_eq b0 hb (by decide), law_fr_eq b0 hb (by decide)]
    simp only [M.bind_ret, neD_int, hz, hn, if_true, Bool.false_eq_true, if_false, neD_self (sFD _)]
    rfl
theorem law3 (d1 : Drawn x1) (d2 : Drawn x2) : L_3 (LE x1 x2 x3 a b k row wh ls n lo hi td j nu su va ro ma) = M.ret (.nx (LE x1 x2 x3 a b k row wh ls n lo hi td j nu su va ro ma)) := by
  unfold L_3 LE
  simp only [sIf_ap, tvOr_ap, eT_ap, eBin_ap, eCall_ap, aCons_ap, aNil_ap, eVar_ap, slot_succ, slot_zero, M.bind_ret]
  rw [plus_eq d1.p d2.p (by decide) (by decide), minus_eq d1.p d2.p (by decide) (by decide), times_eq d1.p d2.p (by decide) (by decide), law_add_eq d1.p d2.p (by decide) (by decide), law_sub_eq d1.p d2.p (by decide) (by decide), law_mul_eq d1.p d2.p (by decide) (by decide)]
  simp only [M.bind_ret, neD_self (sFD _), Bool.false_eq_true, if_false, sNil_ap]
theorem law4 (d1 : Drawn x1) (d2 : Drawn x2) : L_4 (LE x1 x2 x3 a b k row wh ls n lo hi td j nu su va ro ma) = M.ret (.nx (LE x1 x2 x3 a b k row wh ls n lo hi td j nu su va ro ma)) := by
  unfold L_4 LE
  have i0 : ∀ z : Int × Int, ixD (FD z) (.int 0) = M.ret (.int z.1) := fun z => ixD_t0 _ _
  have i1 : ∀ z : Int × Int, ixD (FD z) (.int 1) = M.ret (.int z.2) := fun z => ixD_t1 _ _ _
  simp only [sIf_ap, tvAnd_ap, eT_ap, eBin_ap, eCall_ap, aCons_ap, aNil_ap, eVar_ap, eBor_ap, eC_ap, slot_succ, slot_zero, M.bind_ret, i0, i1, neD_int]
  by_cases h0 : x2.1 = 0
  · have hn : (!(x2.1 == 0)) = false := by simp [h0]
    simp only [hn, Bool.false_eq_true, if_false, M.bind_ret, sNil_ap]
  · have hn : (!(x2.1 == 0)) = true := by simp [h0]
    have hm : PB 41 (mkF x2.2 x2.1) := PB.of h0 (d2.p.b) d2.p.a
    simp only [hn, if_true]
    rw [over_eq d1.p d2.p h0 (by decide) (by decide), law_fr_eq h0 d2.p.a (by decide)]
    simp only [M.bind_ret]
    rw [law_mul_eq d1.p hm (by decide) (by decide), over_mul d1.p d2.p h0]
    simp only [M.bind_ret, neD_self (sFD _), Bool.false_eq_true, if_false, sNil_ap]
theorem law5 (d1 : Drawn x1) (d2 : Drawn x2) : L_5 (LE x1 x2 x3 a b k row wh ls n lo hi td j nu su va ro ma) = M.ret (.nx (LE x1 x2 x3 a b k row wh ls n lo hi td j nu su va ro ma)) := by
  unfold L_5 LE
  have pm : PB 41 ((1, 1000000) : Int × Int) := ⟨⟨by decide, by decide⟩, by show (1 : Int).natAbs < 2 ^ 41; decide, by show (1000000 : Int).natAbs < 2 ^ 41; decide⟩
  obtain ⟨g, hg, hg2⟩ := law_sign_eq d1.p d2.p (by decide) (by decide)
  have hz : ∀ z : Bool, (!(z == z)) = false := fun z => by simp
  have e1 : ∀ en : DL.Env, eTup (aCons (eC (.int 1)) (aCons (eC (.int 1000000)) aNil)) en = M.ret (FD (1, 1000000)) := fun _ => rfl
  have eb : decide (g < 0) = decide (x1.1 * x2.2 < x2.1 * x1.2) := by rw [decide_eq_decide]; exact hg2
  simp only [sIf_ap, tvOr_ap, eT_ap, eBin_ap, eCall_ap, aCons_ap, aNil_ap, eVar_ap, eC_ap, slot_succ, slot_zero, M.bind_ret, e1]
  rw [is_less_eq d1.p d2.p (by decide) (by decide), hg, is_less_eq d1.p d1.p (by decide) (by decide), law_add_eq d1.p pm (by decide) (by decide)]
  simp only [M.bind_ret, ltD_int, neD_bl, eb, hz, Bool.false_eq_true, if_false]
  have hl : decide (x1.1 * x1.2 < x1.1 * x1.2) = false := decide_eq_false (Int.lt_irrefl _)
  rw [is_less_eq d1.p (addQ_pb d1.p pm) (by decide) (by decide)]
  simp only [M.bind_ret, hl, notBlD_bl, decide_eq_true (less_bit d1.p), decide_true, Bool.not_true, Bool.false_eq_true, if_false, sNil_ap]
theorem law6 (h : StG s) (hk : k.own = false) : ∃ xs k' s', L_6 (LE x1 x2 x3 a b k row wh ls n lo hi td j nu su va ro ma) s = .ok (.nx (LE x1 x2 x3 a b k' (.sh (.lst (List.map FD xs))) wh ls n lo hi td j nu su va ro ma)) s' ∧ StG s' ∧ k'.own = false ∧ xs.length ≤ 5 ∧ ∀ x ∈ xs, Drawn x := by
  have hb : Bd 8000 6 := (bd_le (n := 12) 6 (by decide) (by decide) (by decide)).mono (by decide)
  obtain ⟨r, s1, e1, g1, hr0, hr1⟩ := take_ok h hb
  have hr2 := hr1 (by decide)
  obtain ⟨m, rfl⟩ : ∃ m : Nat, r = (m : Int) := ⟨r.toNat, by omega⟩
  have hr := rngD_nat m (Nat.lt_of_le_of_lt (show m ≤ 6 by omega) (by decide))
  obtain ⟨xs, s2, e2, g2, hl, hd⟩ := lcL_inv (enc := fun (k : Nat) => D.int (k : Int)) (out := FD) (g := tgN 7) (t := tvYes) (e := eCall m__law_part (aCons (eVar 1) aNil)) (en := wipeE (LE x1 x2 x3 a b k row wh ls n lo hi td j nu su va ro ma) [7]) StG Drawn (xs := List.range m) g1 fun i hi s hs => by
    obtain ⟨x, s', e, g, d⟩ := part_ok hs
    refine ⟨_, rfl, rfl, x, s', ?_, g, d⟩
    unfold LE
    simp only [eCall_ap, aCons_ap, aNil_ap, eVar_ap, wipeE_cons, wipeE_nil, List.set_cons_succ, List.set_cons_zero, slot_succ, slot_zero, M.bind_ret]
    exact e
  rw [List.length_range] at hl
  refine ⟨xs, k, s2, ?_, g2, hk, by omega, hd⟩
  unfold L_6
  have e3 : eRng (aCons (eCall m__law_take (aCons (eVar 1) (aCons (eC (.int 6)) aNil))) aNil) (LE x1 x2 x3 a b k row wh ls n lo hi td j nu su va ro ma) s = .ok ((List.range m).map fun (k : Nat) => D.int (k : Int)) s1 := by
    unfold LE
    simp only [eRng_ap, aCons_ap, aNil_ap, eCall_ap, eVar_ap, eC_ap, slot_succ, slot_zero, M.bind_ret, M.bind_assoc]
    rw [M.bind_ok e1, hr]
    rfl
  rw [sAsg_ap, M.bind_ok (lc_ok e3 (by unfold LE; simp [hk]) e2 (by rw [List.length_map]; omega))]
  rfl
end
end K10

set_option Elab.async false
set_option linter.all false
set_option maxRecDepth 100000
set_option maxHeartbeats 4000000
set_option exponentiation.threshold 100
namespace K10
open PySem PySem.Spec PyProof.Rows L2 DL
abbrev RD (xs : List (Int × Int)) : S := .sh (.lst (List.map FD xs))
structure Row (xs : List (Int × Int)) : Prop where
  l : xs.length ≤ 5
  d : ∀ x ∈ xs, Drawn x
theorem Row.r {xs : List (Int × Int)} (h : Row xs) {n : Nat} (hn : 41 ≤ n) : Rows n xs := fun x hx => (h.d x hx).p.mono hn
section
variable {x1 x2 x3 : Int × Int} {a b : Int} {k row wh ls n lo hi td j nu su va ro ma : S} {s : LS} {xs : List (Int × Int)}
theorem cpy8 {ds : List D} (hn : n.own = false) (hl : ds.length ≤ 16777216) : eLc (eSeq (eBor 8)) [11] (tgN 11) tvYes (eVar 11) (LE x1 x2 x3 a b k (.sh (.lst ds)) wh ls n lo hi td j nu su va ro ma) = M.ret (.lst ds) := by
  refine lc_ret (ds := ds) rfl (by unfold LE; simp [hn]) ?_ hl
  have := lcL_all (enc := id) (g := tgN 11) (t := tvYes) (e := eVar 11) (en := wipeE (LE x1 x2 x3 a b k (.sh (.lst ds)) wh ls n lo hi td j nu su va ro ma) [11]) (f := id) (xs := ds) fun d _ => ⟨_, rfl, rfl, rfl⟩
  rw [List.map_id] at this
  exact this
theorem cpy16 {ds : List D} (hn : n.own = false) (hl : ds.length ≤ 16777216) : eLc (eSeq (eBor 16)) [11] (tgN 11) tvYes (eVar 11) (LE x1 x2 x3 a b k row wh ls n lo hi td j (.sh (.lst ds)) su va ro ma) = M.ret (.lst ds) := by
  refine lc_ret (ds := ds) rfl (by unfold LE; simp [hn]) ?_ hl
  have := lcL_all (enc := id) (g := tgN 11) (t := tvYes) (e := eVar 11) (en := wipeE (LE x1 x2 x3 a b k row wh ls n lo hi td j (.sh (.lst ds)) su va ro ma) [11]) (f := id) (xs := ds) fun d _ => ⟨_, rfl, rfl, rfl⟩
  rw [List.map_id] at this
  exact this
theorem law7 : L_7 (LE x1 x2 x3 a b k row wh ls n lo hi td j nu su va ro ma) = M.ret (.nx (LE x1 x2 x3 a b k row (.sh (FD (0, 1))) (.sh .non) n lo hi td j nu su va ro ma)) := rfl
theorem law8 (hr : Row xs) (hn : n.own = false) : ∃ n' : S, n'.own = false ∧ L_8 (LE x1 x2 x3 a b k (RD xs) (.sh (FD (0, 1))) (.sh .non) n lo hi td j nu su va ro ma) s = .ok (.nx (LE x1 x2 x3 a b k (RD xs) (.sh (FD (totQ xs))) (.sh (OD (lsQ xs))) n' lo hi td j nu su va ro ma)) s := by
  unfold L_8
  obtain ⟨en', s', h, n', h1, h2, h3⟩ := for_map (enc := FD) (xs := xs) (s1 := s) (lv := eSeq (eVar 8)) (en := LE x1 x2 x3 a b k (RD xs) (.sh (FD (0, 1))) (.sh .non) n lo hi td j nu su va ro ma) (s := s) (g := tgN 11) (b := (sSeq (sAsg (eCall m__law_add (aCons (eVar 9) (aCons (eVar 11) aNil))) (tgN 9))
  (sAsg (eIf (tvOr (eT (eBin isNonD (eBor 10) (eC .non))) (eT (eBin ltD (eCall m__law_sign (aCons (eVar 11) (aCons (eVar 10) aNil))) (eC (.int 0))))) (eVar 11) (eVar 10)) (tgN 10))))
    (fun pre en s' => ∃ n' : S, n'.own = false ∧ en = LE x1 x2 x3 a b k (RD xs) (.sh (FD (totQ pre))) (.sh (OD (lsQ pre))) n' lo hi td j nu su va ro ma ∧ s' = s) rfl ⟨n, hn, rfl, rfl⟩ (by
      rintro pre x post en s' e ⟨n', hn', rfl, rfl⟩
      have hp : pre.length ≤ 8 := by
        have := congrArg List.length e
        have := hr.l
        rw [List.length_append, List.length_cons] at *
        omega
      have rp : Rows 60 pre := fun z hz => hr.r (by decide) z (by rw [e]; exact List.mem_append_left _ hz)
      have rx : PB 60 x := hr.r (by decide) x (by rw [e]; exact List.mem_append_right _ List.mem_cons_self)
      refine ⟨LE x1 x2 x3 a b k (RD xs) (.sh (FD (totQ pre))) (.sh (OD (lsQ pre))) (.sh (FD x)) lo hi td j nu su va ro ma, rfl, LE x1 x2 x3 a b k (RD xs) (.sh (FD (totQ (pre ++ [x])))) (.sh (OD (lsQ (pre ++ [x])))) (.sh (FD x)) lo hi td j nu su va ro ma, s', ?_, _, rfl, rfl, rfl⟩
      have c1 : sAsg (eCall m__law_add (aCons (eVar 9) (aCons (eVar 11) aNil))) (tgN 9) (LE x1 x2 x3 a b k (RD xs) (.sh (FD (totQ pre))) (.sh (OD (lsQ pre))) (.sh (FD x)) lo hi td j nu su va ro ma) s' = .ok (.nx (LE x1 x2 x3 a b k (RD xs) (.sh (FD (totQ (pre ++ [x])))) (.sh (OD (lsQ pre))) (.sh (FD x)) lo hi td j nu su va ro ma)) s' := by
        unfold LE
        simp only [sAsg_ap, eCall_ap, aCons_ap, aNil_ap, eVar_ap, slot_succ, slot_zero, M.bind_ret]
        rw [law_add_eq (totQ_pb' rp hp) rx (by decide) (by decide), totQ_snoc]
        rfl
      rw [seq_ok c1, lsQ_snoc]
      unfold LE
      cases q : lsQ pre with
      | none => rfl
      | some y =>
        have hy := lsQ_mem (n := 60) pre (b := none) (fun _ z => by cases z) rp y q
        obtain ⟨g, hg, hg2⟩ := law_sign_eq rx hy (by decide) (by decide)
        have hnn : (FD y).isN = false := rfl
        have eb : decide (g < 0) = decide (x.1 * y.2 < y.1 * x.2) := by rw [decide_eq_decide]; exact hg2
        simp only [sAsg_ap, eIf_ap, tvOr_ap, eT_ap, eBin_ap, eBor_ap, eC_ap, eCall_ap, aCons_ap, aNil_ap, eVar_ap, slot_succ, slot_zero, M.bind_ret, isNonD_non, OD, hnn, Bool.false_eq_true, if_false, hg, ltD_int, eb]
        unfold lsStep
        by_cases hl : x.1 * y.2 < y.1 * x.2
        · simp only [decide_eq_true hl, if_true, if_pos hl, M.bind_ret]
          rfl
        · simp only [decide_eq_false hl, if_neg hl, Bool.false_eq_true, if_false, M.bind_ret]
          rfl)
  exact ⟨n', h1, by rw [h, h2, h3]⟩
theorem sOD (o : Option (Int × Int)) : shal 40 (OD o) = true := by cases o <;> rfl
theorem law9 (hr : Row xs) (hn : n.own = false) : L_9 (LE x1 x2 x3 a b k (RD xs) (.sh (FD (totQ xs))) (.sh (OD (lsQ xs))) n lo hi td j nu su va ro ma) = M.ret (.nx (LE x1 x2 x3 a b k (RD xs) (.sh (FD (totQ xs))) (.sh (OD (lsQ xs))) n lo hi td j nu su va ro ma)) := by
  have hl : (xs.map FD).length ≤ 16777216 := by
    have := hr.l
    rw [List.length_map]
    omega
  unfold L_9
  simp only [sIf_ap, tvOr_ap, eT_ap, eBin_ap, eCall_ap, aCons_ap, aNil_ap, cpy8 hn hl, M.bind_ret]
  rw [total_eq (hr.r (by decide)) (by have := hr.l; omega), least_eq (hr.r (by decide))]
  unfold LE
  simp only [M.bind_ret, eBor_ap, slot_succ, slot_zero, neD_self (sFD _), neD_self (sOD _), Bool.false_eq_true, if_false, sNil_ap]
theorem law10 (d1 : Drawn x1) : L_10 (LE x1 x2 x3 a b k row wh ls n lo hi td j nu su va ro ma) = M.ret (.nx (LE x1 x2 x3 a b k row wh ls n (.sh (.int (x1.1 / x1.2))) (.sh (.int (0 - (0 - x1.1) / x1.2))) td j nu su va ro ma)) := by
  unfold L_10 LE
  simp only [sPar2_ap, eCall_ap, aCons_ap, aNil_ap, eVar_ap, slot_succ, slot_zero, M.bind_ret]
  rw [below_eq d1.p (by decide), above_eq d1.p (by decide)]
  rfl
theorem law11 (d1 : Drawn x1) : L_11 (LE x1 x2 x3 a b k row wh ls n (.sh (.int (x1.1 / x1.2))) (.sh (.int (0 - (0 - x1.1) / x1.2))) td j nu su va ro ma) = M.ret (.nx (LE x1 x2 x3 a b k row wh ls n (.sh (.int (x1.1 / x1.2))) (.sh (.int (0 - (0 - x1.1) / x1.2))) td j nu su va ro ma)) := by
  unfold L_11 LE
  have i0 : ∀ z : Int × Int, ixD (FD z) (.int 0) = M.ret (.int z.1) := fun z => ixD_t0 _ _
  have i1 : ∀ z : Int × Int, ixD (FD z) (.int 1) = M.ret (.int z.2) := fun z => ixD_t1 _ _ _
  obtain ⟨f1, f2⟩ := floor_ok (a := x1.1) d1.p.l.1
  obtain ⟨c1, c2⟩ := ceil_ok (a := x1.1) d1.p.l.1
  have m : ∀ i : Int, mulD (.int i) (.int x1.2) = M.ret (.int (i * x1.2)) := fun i => mulD_int (by
    have hs : small x1.2 = true := by
      have h1 := d1.b
      unfold Bd at h1
      unfold small
      rw [Bool.and_eq_true]
      exact ⟨decide_eq_true (by omega), decide_eq_true (by omega)⟩
    rw [hs]
    simp)
  simp only [sIf_ap, tvOr_ap, eT_ap, eBin_ap, eBor_ap, eC_ap, slot_succ, slot_zero, M.bind_ret, i0, i1, m, addD_int, subD_int, gtD_int, leD_int, ltD_int, geD_int, decide_eq_false f1, decide_eq_false f2, decide_eq_false c1, decide_eq_false c2, Bool.false_eq_true, if_false, sNil_ap]
theorem law12 : L_12 (LE x1 x2 x3 a b k row wh ls n lo hi td j nu su va ro ma) = M.ret (.nx (LE x1 x2 x3 a b k row wh ls n lo hi td j nu su va ro ma)) := by
  unfold L_12 LE
  have i1 : ∀ z : Int × Int, ixD (FD z) (.int 1) = M.ret (.int z.2) := fun z => ixD_t1 _ _ _
  have w : ∀ z : Int × Int, m_is_whole_part [FD z] = M.ret (.bl (z.2 == 1)) := fun z => whole_eq _ _
  have hz : ∀ z : Bool, (!(z == z)) = false := fun z => by simp
  have e1 : ∀ en : DL.Env, eTup (aCons (eC (.int 1)) (aCons (eC (.int 2)) aNil)) en = M.ret (.tup [.int 1, .int 2]) := fun _ => rfl
  have f2 : fits (0 + 1 + 1) = true := rfl
  simp only [sIf_ap, tvOr_ap, eT_ap, eBin_ap, eCall_ap, aCons_ap, aNil_ap, eVar_ap, eBor_ap, eC_ap, slot_succ, slot_zero, M.bind_ret, w, i1, eqD_int, neD_bl, hz, Bool.false_eq_true, if_false, e1, eTup_ap, List.length_cons, List.length_nil, f2, if_true, whole_eq, notBlD_bl]
  rfl
theorem law13 (hr : Row xs) (hn : n.own = false) : L_13 (LE x1 x2 x3 a b k (RD xs) wh ls n lo hi td j nu su va ro ma) = M.ret (.nx (LE x1 x2 x3 a b k (RD xs) wh ls n lo hi (.sh (.tup ((sclQ xs).map D.int))) j nu su va ro ma)) := by
  have hl : (xs.map FD).length ≤ 16777216 := by
    have := hr.l
    rw [List.length_map]
    omega
  unfold L_13
  simp only [sAsg_ap, eCall_ap, aCons_ap, aNil_ap, cpy8 hn hl, M.bind_ret]
  rw [scaled_eq (hr.r (by decide)) (by have := hr.l; omega)]
  rfl
theorem law14 (hr : Row xs) (hn : n.own = false) : L_14 (LE x1 x2 x3 a b k (RD xs) wh ls n lo hi (.sh (.tup ((sclQ xs).map D.int))) j nu su va ro ma) = M.ret (.nx (LE x1 x2 x3 a b k (RD xs) wh ls n lo hi (.sh (.tup ((sclQ xs).map D.int))) j nu su va ro ma)) := by
  unfold L_14
  have i0 : ∀ z : Int × Int, ixD (FD z) (.int 0) = M.ret (.int z.1) := fun z => ixD_t0 _ _
  have e1 : eLc (eSeq (eBor 8)) [11] (tgN 11) tvYes (eCall absF (aCons (eBin ixD (eBor 11) (eC (.int 0))) aNil)) (LE x1 x2 x3 a b k (RD xs) wh ls n lo hi (.sh (.tup ((sclQ xs).map D.int))) j nu su va ro ma) = M.ret (.lst ((xs.map fun x => (x.1.natAbs : Int)).map D.int)) := by
    refine lc_ret (ds := xs.map FD) rfl (by unfold LE; simp [hn]) ?_ (by
      have := hr.l
      rw [List.length_map, List.length_map]
      omega)
    rw [List.map_map]
    refine lcL_all fun x hx => ⟨_, rfl, rfl, ?_⟩
    unfold LE
    simp only [eCall_ap, aCons_ap, aNil_ap, eBin_ap, eBor_ap, eC_ap, wipeE_cons, wipeE_nil, List.set_cons_succ, List.set_cons_zero, slot_succ, slot_zero, M.bind_ret, i0, absF_int, absv]
    rfl
  have hz : ∀ z : Int, (!(z == z)) = false := fun z => by simp
  have hlen : ((sclQ xs).map D.int).length = xs.length := by rw [List.length_map, scl_len]
  simp only [sIf_ap, tvOr_ap, tvAnd_ap, eT_ap, eBin_ap, eCall_ap, aCons_ap, aNil_ap, e1, M.bind_ret]
  unfold LE
  simp only [eBor_ap, eVar_ap, eC_ap, slot_succ, slot_zero, M.bind_ret, lenF_tup, lenF_lst, hlen, List.length_map, neD_int, hz, Bool.false_eq_true, if_false, gtD_int]
  by_cases h0 : (0 : Int) < (xs.length : Int)
  · have hne : xs.map (fun x => (x.1.natAbs : Int)) ≠ [] := fun z => by
      have := congrArg List.length z
      rw [List.length_map] at this
      simp at this
      subst this
      exact absurd h0 (by decide)
    simp only [decide_eq_true h0, if_true, maxF_map _ hne, M.bind_ret, gtD_int]
    by_cases h1 : (0 : Int) < maxI (xs.map fun x => (x.1.natAbs : Int))
    · obtain ⟨hm, _⟩ := maxI_spec (xs.map fun x => (x.1.natAbs : Int)) (by rw [List.length_map]; omega)
      obtain ⟨x, hx, ex⟩ := List.mem_map.mp hm
      have x0 : x.1 ≠ 0 := fun z => by
        rw [z] at ex
        rw [← ex] at h1
        exact absurd h1 (by decide)
      have hg := scl_gcd (hr.r (Nat.le_refl 41)) hx x0
      have hbd : ∀ z ∈ sclQ xs, Bd 200 z := fun z hz => (sclQ_bd (fndQ_bdS (n1 := 41) (n2 := 13) (m := 5) (fun x hx => ⟨(hr.d x hx).p.a, (hr.d x hx).b⟩) hr.l) z hz).mono (by decide)
      simp only [decide_eq_true h1, if_true]
      rw [gcd_of_eq hbd, hg]
      rfl
    · simp only [decide_eq_false h1, Bool.false_eq_true, if_false, M.bind_ret, sNil_ap]
  · simp only [decide_eq_false h0, Bool.false_eq_true, if_false, M.bind_ret, sNil_ap]
end
end K10

set_option Elab.async false
set_option linter.all false
set_option maxRecDepth 100000
set_option maxHeartbeats 4000000
set_option exponentiation.threshold 100
namespace K10
open PySem PySem.Spec PyProof.Rows L2 DL
section
variable {x1 x2 x3 : Int × Int} {a b : Int} {k row wh ls n lo hi td j nu su va ro ma : S} {s : LS} {xs : List (Int × Int)}
abbrev TD (xs : List (Int × Int)) : S := .sh (.tup ((sclQ xs).map D.int))
theorem rng8 (h : xs.length ≤ 5) : eRng (aCons (eCall lenF (aCons (eBor 8) aNil)) aNil) (LE x1 x2 x3 a b k (RD xs) wh ls n lo hi td j nu su va ro ma) = M.ret ((List.range xs.length).map fun (k : Nat) => D.int (k : Int)) := by
  have hr := rngD_nat xs.length (Nat.lt_of_le_of_lt h (by decide))
  unfold LE
  simp only [eRng_ap, aCons_ap, aNil_ap, eCall_ap, eBor_ap, slot_succ, slot_zero, M.bind_ret, lenF_lst, List.length_map]
  exact hr
theorem range_at {m i : Nat} {pre post : List Nat} (e : List.range m = pre ++ i :: post) : i < m ∧ pre = List.range i := by
  have hi : i ∈ List.range m := by rw [e]; exact List.mem_append_right _ List.mem_cons_self
  have hl : pre.length < (List.range m).length := by rw [e, List.length_append, List.length_cons]; omega
  have h1 : (List.range m)[pre.length]? = some i := by rw [e, List.getElem?_append_right (Nat.le_refl _), Nat.sub_self]; rfl
  rw [List.length_range] at hl
  rw [List.getElem?_range hl] at h1
  cases h1
  refine ⟨hl, ?_⟩
  have h2 : pre = (List.range m).take pre.length := by rw [e, List.take_left']; rfl
  rw [List.take_range] at h2
  conv => lhs; rw [h2]
  rw [Nat.min_eq_left (by omega)]
theorem law15 (hr : Row xs) (hk : k.own = false) : ∃ k' j' : S, k'.own = false ∧ L_15 (LE x1 x2 x3 a b k (RD xs) wh ls n lo hi (TD xs) j nu su va ro ma) s = .ok (.nx (LE x1 x2 x3 a b k' (RD xs) wh ls n lo hi (TD xs) j' nu su va ro ma)) s := by
  unfold L_15
  have hrng := fun k j : S => rng8 (x1 := x1) (x2 := x2) (x3 := x3) (a := a) (b := b) (k := k) (wh := wh) (ls := ls) (n := n) (lo := lo) (hi := hi) (td := TD xs) (j := j) (nu := nu) (su := su) (va := va) (ro := ro) (ma := ma) hr.l
  have i0 : ∀ z : Int × Int, ixD (FD z) (.int 0) = M.ret (.int z.1) := fun z => ixD_t0 _ _
  have hz : ∀ z : Bool, (!(z == z)) = false := fun z => by simp
  have hbd : ∀ z ∈ sclQ xs, Bd 200 z := fun z hz => (sclQ_bd (fndQ_bdS (n1 := 41) (n2 := 13) (m := 5) (fun x hx => ⟨(hr.d x hx).p.a, (hr.d x hx).b⟩) hr.l) z hz).mono (by decide)
  obtain ⟨en', s', h, k', j', h1, h2, h3⟩ := for_map (enc := fun (k : Nat) => D.int (k : Int)) (xs := List.range xs.length) (s1 := s) (lv := eRng (aCons (eCall lenF (aCons (eBor 8) aNil)) aNil)) (g := tgN 7) (b := (sFor (eRng (aCons (eCall lenF (aCons (eBor 8) aNil)) aNil)) (tgN 15) (sIf (tvOr (eT (eBin neD (eCall m__law_mul (aCons (eTup (aCons (eBin ixD (eBor 14) (eBor 7)) (aCons (eC (.int 1)) aNil))) (aCons (eBin ixD (eBor 8) (eBor 15)) aNil))) (eCall m__law_mul (aCons (eTup (aCons (eBin ixD (eBor 14) (eBor 15)) (aCons (eC (.int 1)) aNil))) (aCons (eBin ixD (eBor 8) (eBor 7)) aNil))))) (tvOr (eT (eBin neD (eBin gtD (eBin ixD (eBor 14) (eBor 7)) (eC (.int 0))) (eBin gtD (eBin ixD (eBin ixD (eBor 8) (eBor 7)) (eC (.int 0))) (eC (.int 0))))) (eT (eBin neD (eBin ltD (eBin ixD (eBor 14) (eBor 7)) (eC (.int 0))) (eBin ltD (eBin ixD (eBin ixD (eBor 8) (eBor 7)) (eC (.int 0))) (eC (.int 0))))))) (sRet (eC (.bl false))) sNil)))
    (en := LE x1 x2 x3 a b k (RD xs) wh ls n lo hi (TD xs) j nu su va ro ma) (s := s) (fun pre en s' => ∃ k' j' : S, k'.own = false ∧ en = LE x1 x2 x3 a b k' (RD xs) wh ls n lo hi (TD xs) j' nu su va ro ma ∧ s' = s) (by rw [hrng]; rfl) ⟨k, j, hk, rfl, rfl⟩ (by
      rintro pre i post en s' e ⟨k', j', _, rfl, rfl⟩
      obtain ⟨hi', _⟩ := range_at e
      obtain ⟨en2, s2, h, j2, h2, h3⟩ := for_map (enc := fun (k : Nat) => D.int (k : Int)) (xs := List.range xs.length) (s1 := s') (lv := eRng (aCons (eCall lenF (aCons (eBor 8) aNil)) aNil)) (g := tgN 15) (b := (sIf (tvOr (eT (eBin neD (eCall m__law_mul (aCons (eTup (aCons (eBin ixD (eBor 14) (eBor 7)) (aCons (eC (.int 1)) aNil))) (aCons (eBin ixD (eBor 8) (eBor 15)) aNil))) (eCall m__law_mul (aCons (eTup (aCons (eBin ixD (eBor 14) (eBor 15)) (aCons (eC (.int 1)) aNil))) (aCons (eBin ixD (eBor 8) (eBor 7)) aNil))))) (tvOr (eT (eBin neD (eBin gtD (eBin ixD (eBor 14) (eBor 7)) (eC (.int 0))) (eBin gtD (eBin ixD (eBin ixD (eBor 8) (eBor 7)) (eC (.int 0))) (eC (.int 0))))) (eT (eBin neD (eBin ltD (eBin ixD (eBor 14) (eBor 7)) (eC (.int 0))) (eBin ltD (eBin ixD (eBin ixD (eBor 8) (eBor 7)) (eC (.int 0))) (eC (.int 0))))))) (sRet (eC (.bl false))) sNil))
        (en := LE x1 x2 x3 a b (.sh (.int (i : Int))) (RD xs) wh ls n lo hi (TD xs) j' nu su va ro ma) (s := s') (fun pre en s2 => ∃ j2 : S, en = LE x1 x2 x3 a b (.sh (.int (i : Int))) (RD xs) wh ls n lo hi (TD xs) j2 nu su va ro ma ∧ s2 = s') (by rw [hrng]; rfl) ⟨j', rfl, rfl⟩ (by
          rintro pre2 jj post2 en s2 e2 ⟨j2, rfl, rfl⟩
          obtain ⟨hj', _⟩ := range_at e2
          refine ⟨LE x1 x2 x3 a b (.sh (.int (i : Int))) (RD xs) wh ls n lo hi (TD xs) (.sh (.int (jj : Int))) nu su va ro ma, rfl, LE x1 x2 x3 a b (.sh (.int (i : Int))) (RD xs) wh ls n lo hi (TD xs) (.sh (.int (jj : Int))) nu su va ro ma, s2, ?_, _, rfl, rfl⟩
          have hx : xs[i]? = some xs[i] := List.getElem?_eq_getElem hi'
          have hy : xs[jj]? = some xs[jj] := List.getElem?_eq_getElem hj'
          have ht : (sclQ xs)[i]? = some ((sclQ xs)[i]'(by rw [scl_len]; exact hi')) := List.getElem?_eq_getElem _
          have hu : (sclQ xs)[jj]? = some ((sclQ xs)[jj]'(by rw [scl_len]; exact hj')) := List.getElem?_eq_getElem _
          generalize (sclQ xs)[i]'(by rw [scl_len]; exact hi') = t at ht
          generalize (sclQ xs)[jj]'(by rw [scl_len]; exact hj') = u at hu
          have px := (hr.d xs[i] (List.getElem_mem hi')).p
          have py := (hr.d xs[jj] (List.getElem_mem hj')).p
          generalize xs[i] = x at hx px
          generalize xs[jj] = y at hy py
          have g1 : (xs.map FD)[i]? = some (FD x) := by rw [List.getElem?_map, hx]; rfl
          have g2 : (xs.map FD)[jj]? = some (FD y) := by rw [List.getElem?_map, hy]; rfl
          have g3 : ((sclQ xs).map D.int)[i]? = some (.int t) := by rw [List.getElem?_map, ht]; rfl
          have g4 : ((sclQ xs).map D.int)[jj]? = some (.int u) := by rw [List.getElem?_map, hu]; rfl
          have bt : Bd 200 t := hbd t (List.mem_of_getElem? ht)
          have bu : Bd 200 u := hbd u (List.mem_of_getElem? hu)
          have b1 : Bd 200 1 := Bd.mono (n := 1) (by show (1 : Int).natAbs < 2 ^ 1; decide) (by decide)
          obtain ⟨sg1, sg2⟩ := scl_sign (hr.r (Nat.le_refl 41)) hx ht
          have e3 : decide (0 < t) = decide (0 < x.1) := by rw [decide_eq_decide]; exact sg1
          have e4 : decide (t < 0) = decide (x.1 < 0) := by rw [decide_eq_decide]; exact sg2
          have f2 : fits (0 + 1 + 1) = true := rfl
          have m1 : m__law_mul [.tup [.int t, .int 1], FD y] = M.ret (FD (mkF (t * y.1) (1 * y.2))) := law_mul_any bt b1 py.a py.b (by decide) py.ne (by decide) (by decide)
          have m2 : m__law_mul [.tup [.int u, .int 1], FD x] = M.ret (FD (mkF (u * x.1) (1 * x.2))) := law_mul_any bu b1 px.a px.b (by decide) px.ne (by decide) (by decide)
          unfold LE
          simp only [sIf_ap, tvOr_ap, eT_ap, eBin_ap, eCall_ap, aCons_ap, aNil_ap, eBor_ap, eC_ap, eTup_ap, slot_succ, slot_zero, M.bind_ret, ixD_lst g1, ixD_lst g2, ixD_tup g3, ixD_tup g4, List.length_cons, List.length_nil, f2, if_true, m1, m2, i0, gtD_int, ltD_int]
          rw [scl_two (hr.r (Nat.le_refl 41)) hx hy ht hu]
          simp only [neD_self (sFD _), M.bind_ret, Bool.false_eq_true, if_false, neD_bl, e3, e4, hz, sNil_ap]
          rfl)
      refine ⟨_, rfl, en2, s2, h, _, j2, rfl, h2, h3⟩)
  exact ⟨k', j', h1, by rw [h, h2, h3]⟩
theorem law16 (hr : Row xs) (h : StG s) (hn : n.own = false) : ∃ (ns : List Int) (s' : LS), L_16 (LE x1 x2 x3 a b k (RD xs) wh ls n lo hi td j nu su va ro ma) s = .ok (.nx (LE x1 x2 x3 a b k (RD xs) wh ls n lo hi td j (.sh (.lst (ns.map D.int))) su va ro ma)) s' ∧ StG s' ∧ ns.length = xs.length ∧ ∀ z ∈ ns, Bd 5 z := by
  have hb : Bd 8000 21 := (bd_le (n := 12) 21 (by decide) (by decide) (by decide)).mono (by decide)
  obtain ⟨ns, s2, e2, g2, hl, hd⟩ := lcL_inv (enc := FD) (out := D.int) (g := tgN 11) (t := tvYes) (e := eBin subD (eCall m__law_take (aCons (eVar 1) (aCons (eC (.int 21)) aNil))) (eC (.int 10))) (en := wipeE (LE x1 x2 x3 a b k (RD xs) wh ls n lo hi td j nu su va ro ma) [11]) StG (Bd 5) (xs := xs) h fun x hx s hs => by
    obtain ⟨r, s', e, g, h0, h1⟩ := take_ok hs hb
    have h1 := h1 (by decide)
    refine ⟨_, rfl, rfl, r - 10, s', ?_, g, bd_le 10 (by omega) (by omega) (by decide)⟩
    unfold LE
    simp only [eBin_ap, eCall_ap, aCons_ap, aNil_ap, eVar_ap, eC_ap, wipeE_cons, wipeE_nil, List.set_cons_succ, List.set_cons_zero, slot_succ, slot_zero, M.bind_ret, M.bind_assoc]
    rw [M.bind_ok e]
    rfl
  refine ⟨ns, s2, ?_, g2, hl, hd⟩
  unfold L_16
  have hz := hr.l
  rw [sAsg_ap, M.bind_ok (lc_ok (ds := xs.map FD) (s1 := s) rfl (by unfold LE; simp [hn]) e2 (by rw [List.length_map]; omega))]
  rfl
theorem law17 : L_17 (LE x1 x2 x3 a b k row wh ls n lo hi td j nu su va ro ma) = M.ret (.nx (LE x1 x2 x3 a b k row wh ls n lo hi td j nu (.sh (FD (0, 1))) va ro ma)) := rfl
theorem law18 (hr : Row xs) (hk : k.own = false) {ns : List Int} (hl : ns.length = xs.length) (hb : ∀ z ∈ ns, Bd 5 z) : ∃ k' : S, k'.own = false ∧ L_18 (LE x1 x2 x3 a b k (RD xs) wh ls n lo hi td j (.sh (.lst (ns.map D.int))) (.sh (FD (0, 1))) va ro ma) s = .ok (.nx (LE x1 x2 x3 a b k' (RD xs) wh ls n lo hi td j (.sh (.lst (ns.map D.int))) (.sh (FD (totQ ((List.range ns.length).map (itm ns xs))))) va ro ma)) s := by
  unfold L_18
  obtain ⟨en', s', h, k', h1, h2, h3⟩ := for_map (enc := fun (k : Nat) => D.int (k : Int)) (xs := List.range xs.length) (s1 := s) (lv := eRng (aCons (eCall lenF (aCons (eBor 8) aNil)) aNil)) (g := tgN 7) (b := (sAsg (eCall m__law_add (aCons (eVar 17) (aCons (eCall m__law_mul (aCons (eTup (aCons (eBin ixD (eBor 16) (eBor 7)) (aCons (eC (.int 1)) aNil))) (aCons (eBin ixD (eBor 8) (eBor 7)) aNil))) aNil))) (tgN 17)))
    (en := LE x1 x2 x3 a b k (RD xs) wh ls n lo hi td j (.sh (.lst (ns.map D.int))) (.sh (FD (0, 1))) va ro ma) (s := s) (fun pre en s' => ∃ k' : S, k'.own = false ∧ en = LE x1 x2 x3 a b k' (RD xs) wh ls n lo hi td j (.sh (.lst (ns.map D.int))) (.sh (FD (totQ (pre.map (itm ns xs))))) va ro ma ∧ s' = s) (by rw [rng8 hr.l]; rfl) ⟨k, hk, rfl, rfl⟩ (by
      rintro pre i post en s' e ⟨k', _, rfl, rfl⟩
      obtain ⟨hi', hpre⟩ := range_at e
      refine ⟨LE x1 x2 x3 a b (.sh (.int (i : Int))) (RD xs) wh ls n lo hi td j (.sh (.lst (ns.map D.int))) (.sh (FD (totQ (pre.map (itm ns xs))))) va ro ma, rfl, LE x1 x2 x3 a b (.sh (.int (i : Int))) (RD xs) wh ls n lo hi td j (.sh (.lst (ns.map D.int))) (.sh (FD (totQ ((pre ++ [i]).map (itm ns xs))))) va ro ma, s', ?_, _, rfl, rfl, rfl⟩
      have r41 : Rows 41 xs := hr.r (Nat.le_refl 41)
      have hi2 : i < ns.length := by omega
      have g1 : (xs.map FD)[i]? = some (FD xs[i]) := by rw [List.getElem?_map, List.getElem?_eq_getElem hi']; rfl
      have g3 : (ns.map D.int)[i]? = some (.int ns[i]) := by rw [List.getElem?_map, List.getElem?_eq_getElem hi2]; rfl
      have px := r41 xs[i] (List.getElem_mem hi')
      have bn : Bd 5 ns[i] := hb _ (List.getElem_mem hi2)
      have f2 : fits (0 + 1 + 1) = true := rfl
      have m1 : m__law_mul [.tup [.int ns[i], .int 1], FD xs[i]] = M.ret (FD (itm ns xs i)) := by
        have := law_mul_eq (pb_int bn (by decide)) px (by decide) (by decide)
        have e3 : mulQ (ns[i], 1) xs[i] = itm ns xs i := by
          unfold itm mulQ
          rw [getD_of hi', getD_of hi2, Int.mul_comm ns[i], Int.mul_comm 1]
        rw [e3] at this
        exact this
      have rp : Rows 60 (pre.map (itm ns xs)) := fun z hz => by
        obtain ⟨q, hq, rfl⟩ := List.mem_map.mp hz
        rw [hpre] at hq
        have hq := List.mem_range.mp hq
        exact itm_pb hb r41 hl (by omega)
      have hp : (pre.map (itm ns xs)).length ≤ 8 := by
        have := hr.l
        rw [List.length_map, hpre, List.length_range]
        omega
      unfold LE
      simp only [sAsg_ap, eCall_ap, aCons_ap, aNil_ap, eVar_ap, eBin_ap, eBor_ap, eC_ap, eTup_ap, slot_succ, slot_zero, M.bind_ret, ixD_lst g1, ixD_lst g3, List.length_cons, List.length_nil, f2, if_true, m1]
      rw [law_add_eq (totQ_pb' rp hp) (itm_pb hb r41 hl hi2) (by decide) (by decide), ← totQ_snoc, List.map_append]
      rfl)
  refine ⟨k', h1, ?_⟩
  rw [h, h2, h3, hl]
theorem law19 (hr : Row xs) (hn : n.own = false) {ns : List Int} (hl : ns.length = xs.length) (hb : ∀ z ∈ ns, Bd 5 z) : L_19 (LE x1 x2 x3 a b k (RD xs) wh ls n lo hi td j (.sh (.lst (ns.map D.int))) (.sh (FD (totQ ((List.range ns.length).map (itm ns xs))))) va ro ma) = M.ret (.nx (LE x1 x2 x3 a b k (RD xs) wh ls n lo hi td j (.sh (.lst (ns.map D.int))) (.sh (FD (totQ ((List.range ns.length).map (itm ns xs))))) va ro ma)) := by
  have h1 : (xs.map FD).length ≤ 16777216 := by
    have := hr.l
    rw [List.length_map]
    omega
  have h2 : (ns.map D.int).length ≤ 16777216 := by
    have := hr.l
    rw [List.length_map]
    omega
  unfold L_19
  simp only [sIf_ap, eT_ap, eBin_ap, eCall_ap, aCons_ap, aNil_ap, cpy8 hn h1, cpy16 hn h2, M.bind_ret]
  rw [dot_eq hb (hr.r (Nat.le_refl 41)) hl (by have := hr.l; omega)]
  unfold LE
  simp only [M.bind_ret, eBor_ap, slot_succ, slot_zero, neD_self (sFD _), Bool.false_eq_true, if_false, sNil_ap]
end
end K10

set_option Elab.async false
set_option linter.all false
set_option maxRecDepth 100000
set_option maxHeartbeats 4000000
set_option exponentiation.threshold 100
namespace K10
open PySem PySem.Spec PyProof.Rows L2 DL
theorem addD_tup {p q : List D} (h : p.length + q.length ≤ 16777216) : addD (.tup p) (.tup q) = M.ret (.tup (p ++ q)) := by
  show (if fits (p.length + q.length) = true then _ else _) = _
  rw [if_pos (fits_small _ h)]
theorem sml_pair {u w : Int} (h : Bd 200 w) : Sml (.tup [.int u, .int w]) := ⟨rfl, fun ds e d hd => by
  cases e
  rcases List.mem_cons.mp hd with q | q
  · rw [q]; rfl
  · rw [List.mem_singleton.mp q]; rfl, fun p q e => by
  cases e
  exact h⟩
theorem sml_nt {d : D} (h : NoS d) (ht : d.isTup = false) : Sml d := ⟨h, fun ds e => (by rw [e] at ht; cases ht), fun p q e => (by rw [e] at ht; cases ht)⟩
theorem sml_tup {ds : List D} (h : ∀ d ∈ ds, NoS d) (hn : ∀ p q, ds ≠ [.int p, .int q]) : Sml (.tup ds) := ⟨rfl, fun es e => by cases e; exact h, fun p q e => by cases e; exact absurd rfl (hn p q)⟩
theorem sml_FD {n : Nat} {x : Int × Int} (h : PB n x) (hn : n ≤ 200) : Sml (FD x) := sml_pair (h.b.mono hn)
section
variable {x1 x2 x3 : Int × Int} {a b : Int} {k row wh ls n lo hi td j nu su va ro ma : S} {s : LS} {xs : List (Int × Int)}
def vals (x1 : Int × Int) (a : Int) : List D := [FD x1, .lst [.int x1.1, .int x1.2], .tup ([.int x1.1, .int x1.2] ++ [.int 1]), .tup [.int x1.1, .int (0 - x1.2)], .tup [.int (2 * x1.1 + 2), .int 2], .tup [.int a, .int 0], .tup [.bl true, .int 1], .tup [.int 1, .bl true], .tup [.int 0, .int 2], .tup [.int 0, .int 1], .non, .int 3, .tup [.str "1", .int 2], .tup [.int a, .int 1], .tup []]
theorem vals_ok (d1 : Drawn x1) : ∀ v ∈ vals x1 a, Sml v := by
  have b2 : ∀ i : Int, (-2 ≤ i ∧ i ≤ 2) → Bd 200 i := fun i hi => (bd_le (n := 3) 2 hi.1 hi.2 (by decide)).mono (by decide)
  have hb : Bd 200 (0 - x1.2) := by
    rw [Int.zero_sub]
    exact (d1.p.b.mono (by decide)).neg
  intro v hv
  unfold vals at hv
  simp only [List.mem_cons, List.not_mem_nil, or_false] at hv
  rcases hv with rfl | rfl | rfl | rfl | rfl | rfl | rfl | rfl | rfl | rfl | rfl | rfl | rfl | rfl | rfl
  · exact sml_FD d1.p (by decide)
  · exact sml_nt rfl rfl
  · refine sml_tup (fun d hd => ?_) (fun p q e => by cases e)
    simp only [List.mem_append, List.mem_cons, List.not_mem_nil, or_false] at hd
    rcases hd with (rfl | rfl) | rfl <;> rfl
  · exact sml_pair hb
  · exact sml_pair (b2 _ (by decide))
  · exact sml_pair (b2 _ (by decide))
  · refine sml_tup (fun d hd => ?_) (fun p q e => by cases e)
    simp only [List.mem_cons, List.not_mem_nil, or_false] at hd
    rcases hd with rfl | rfl <;> rfl
  · refine sml_tup (fun d hd => ?_) (fun p q e => by cases e)
    simp only [List.mem_cons, List.not_mem_nil, or_false] at hd
    rcases hd with rfl | rfl <;> rfl
  · exact sml_pair (b2 _ (by decide))
  · exact sml_pair (b2 _ (by decide))
  · exact sml_nt rfl rfl
  · exact sml_nt rfl rfl
  · refine sml_tup (fun d hd => ?_) (fun p q e => by cases e)
    simp only [List.mem_cons, List.not_mem_nil, or_false] at hd
    rcases hd with rfl | rfl <;> rfl
  · exact sml_pair (b2 _ (by decide))
  · exact sml_tup (fun d hd => nomatch hd) (fun p q e => by cases e)
theorem law20 (d1 : Drawn x1) : ∃ va' : S, L_20 (LE x1 x2 x3 a b k row wh ls n lo hi td j nu su va ro ma) s = .ok (.nx (LE x1 x2 x3 a b k row wh ls n lo hi td j nu su va' ro ma)) s := by
  unfold L_20
  have i0 : ∀ z : Int × Int, ixD (FD z) (.int 0) = M.ret (.int z.1) := fun z => ixD_t0 _ _
  have i1 : ∀ z : Int × Int, ixD (FD z) (.int 1) = M.ret (.int z.2) := fun z => ixD_t1 _ _ _
  have l1 : ∀ z : Int × Int, listF [FD z] = M.ret (.lst [.int z.1, .int z.2]) := fun z => listF_tup _
  have t1 : ∀ (z : Int × Int) (q : List D), q.length ≤ 1000 → addD (FD z) (.tup q) = M.ret (.tup ([.int z.1, .int z.2] ++ q)) := fun z q hq => addD_tup (by show 2 + q.length ≤ 16777216; omega)
  have f0 : fits 0 = true := rfl
  have f1 : fits (0 + 1) = true := rfl
  have f2 : fits (0 + 1 + 1) = true := rfl
  have f15 : fits (0 + 1 + 1 + 1 + 1 + 1 + 1 + 1 + 1 + 1 + 1 + 1 + 1 + 1 + 1 + 1) = true := rfl
  have m2 : mulD (.int 2) (.int x1.1) = M.ret (.int (2 * x1.1)) := mulD_int rfl
  obtain ⟨en', s', h, va', h2, h3⟩ := for_run (ds := vals x1 a) (s1 := s) (g := tgN 18) (b := (sIf (eT (eBin neD (eCall m_is_part (aCons (eVar 18) aNil)) (eCall m__law_is (aCons (eVar 18) aNil)))) (sRet (eC (.bl false))) sNil)) (en := LE x1 x2 x3 a b k row wh ls n lo hi td j nu su va ro ma) (s := s)
    (lv := eSeq (eLst (aCons (eVar 2) (aCons (eCall listF (aCons (eBor 2) aNil)) (aCons (eBin addD (eBor 2) (eTup (aCons (eC (.int 1)) aNil))) (aCons (eTup (aCons (eBin ixD (eBor 2) (eC (.int 0))) (aCons (eBin subD (eC (.int 0)) (eBin ixD (eBor 2) (eC (.int 1)))) aNil))) (aCons (eTup (aCons (eBin addD (eBin mulD (eC (.int 2)) (eBin ixD (eBor 2) (eC (.int 0)))) (eC (.int 2))) (aCons (eC (.int 2)) aNil))) (aCons (eTup (aCons (eVar 5) (aCons (eC (.int 0)) aNil))) (aCons (eTup (aCons (eC (.bl true)) (aCons (eC (.int 1)) aNil))) (aCons (eTup (aCons (eC (.int 1)) (aCons (eC (.bl true)) aNil))) (aCons (eTup (aCons (eC (.int 0)) (aCons (eC (.int 2)) aNil))) (aCons (eTup (aCons (eC (.int 0)) (aCons (eC (.int 1)) aNil))) (aCons (eC .non) (aCons (eC (.int 3)) (aCons (eTup (aCons (eC (.str "1")) (aCons (eC (.int 2)) aNil))) (aCons (eTup (aCons (eVar 5) (aCons (eC (.int 1)) aNil))) (aCons (eTup aNil) aNil)))))))))))))))))
    (fun pre en s' => ∃ va' : S, en = LE x1 x2 x3 a b k row wh ls n lo hi td j nu su va' ro ma ∧ s' = s) (by
      unfold LE
      simp only [eSeq_ap, eLst_ap, aCons_ap, aNil_ap, eVar_ap, eBor_ap, eCall_ap, eBin_ap, eTup_ap, eC_ap, slot_succ, slot_zero, M.bind_ret, l1, i0, i1, subD_int, addD_int, m2, List.length_cons, List.length_nil, f0, f1, f2, f15, if_true, t1 _ [.int 1] (by decide), itemsD_lst]
      rfl) ⟨va, rfl, rfl⟩ (by
      rintro pre v post en s' e ⟨va', rfl, rfl⟩
      have hv : Sml v := vals_ok d1 v (by rw [e]; exact List.mem_append_right _ List.mem_cons_self)
      obtain ⟨p1, p2⟩ := is_part_eq hv
      refine ⟨LE x1 x2 x3 a b k row wh ls n lo hi td j nu su (.sh v) ro ma, rfl, LE x1 x2 x3 a b k row wh ls n lo hi td j nu su (.sh v) ro ma, s', ?_, _, rfl, rfl⟩
      have hz : ∀ z : Bool, (!(z == z)) = false := fun z => by simp
      unfold LE
      simp only [sIf_ap, eT_ap, eBin_ap, eCall_ap, aCons_ap, aNil_ap, eVar_ap, slot_succ, slot_zero, M.bind_ret, p1, p2, neD_bl, hz, Bool.false_eq_true, if_false, sNil_ap]
      rfl)
  exact ⟨va', by rw [h, h2, h3]⟩
theorem law21 : L_21 (LE x1 x2 x3 a b k (RD xs) wh ls n lo hi td j nu su va ro ma) = M.ret (.nx (LE x1 x2 x3 a b k (RD xs) wh ls n lo hi td j nu su va (.sh (.tup (xs.map FD))) ma)) := rfl
/-- the law's own way -/
theorem law_are {v : D} {many : Int} (h : SmlT v) (hn : n.own = false) : eAnd (eIsi "tuple" (eBor 18)) (eAnd (eBin eqD (eCall lenF (aCons (eBor 18) aNil)) (eBor 20)) (eBin eqD (eCall lenF (aCons (eLc (eSeq (eBor 18)) [11] (tgN 11) (tvNot (eT (eCall m__law_is (aCons (eVar 11) aNil)))) (eVar 11)) aNil)) (eC (.int 0)))) (LE x1 x2 x3 a b k row wh ls n lo hi td j nu su (.sh v) ro (.sh (.int many))) = M.ret (.bl (areP v many)) := by
  have e0 : eBor 18 (LE x1 x2 x3 a b k row wh ls n lo hi td j nu su (.sh v) ro (.sh (.int many))) = M.ret v := rfl
  have e20 : eBor 20 (LE x1 x2 x3 a b k row wh ls n lo hi td j nu su (.sh v) ro (.sh (.int many))) = M.ret (.int many) := rfl
  simp only [eAnd_ap, eIsi_ap, e0, M.bind_ret, isiD_tup h.s]
  cases v with
  | tup ds =>
    obtain ⟨hl, hd⟩ := h.t ds rfl
    have e1 : eLc (eSeq (eBor 18)) [11] (tgN 11) (tvNot (eT (eCall m__law_is (aCons (eVar 11) aNil)))) (eVar 11) (LE x1 x2 x3 a b k row wh ls n lo hi td j nu su (.sh (.tup ds)) ro (.sh (.int many))) = M.ret (.lst (ds.filter fun d => !isP d)) := by
      refine lc_ret (ds := ds) rfl (by unfold LE; simp [hn]) ?_ (Nat.le_trans (List.length_filter_le _ _) (by omega))
      have := lcL_map (enc := id) (g := tgN 11) (t := tvNot (eT (eCall m__law_is (aCons (eVar 11) aNil)))) (e := eVar 11) (en := wipeE (LE x1 x2 x3 a b k row wh ls n lo hi td j nu su (.sh (.tup ds)) ro (.sh (.int many))) [11]) (p := fun d => !isP d) (f := id) (xs := ds) fun d hd' => by
        refine ⟨_, rfl, ?_, fun _ => rfl⟩
        unfold LE
        simp only [tvNot_ap, eT_ap, eCall_ap, aCons_ap, aNil_ap, eVar_ap, wipeE_cons, wipeE_nil, List.set_cons_succ, List.set_cons_zero, slot_succ, slot_zero, M.bind_ret, id_eq, (is_part_eq (hd d hd')).2]
      rw [List.map_id, List.map_id] at this
      exact this
    simp only [D.isTup, eBin_ap, eCall_ap, aCons_ap, aNil_ap, e0, e20, e1, M.bind_ret, lenF_tup, lenF_lst, eqD_int, eC_ap]
    unfold areP
    by_cases hm : ((ds.length : Int) == many) = true
    · have e2 : (((ds.filter fun d => !isP d).length : Int) == 0) = ds.all isP := by
        rw [Bool.eq_iff_iff, beq_iff_eq, List.all_eq_true]
        constructor
        · intro z d hd'
          have z0 : (ds.filter fun d => !isP d).length = 0 := by omega
          have z1 := List.eq_nil_of_length_eq_zero z0
          cases q : isP d with
          | true => rfl
          | false =>
            have : d ∈ ds.filter fun d => !isP d := List.mem_filter.mpr ⟨hd', by rw [q]; rfl⟩
            rw [z1] at this
            cases this
        · intro z
          have : (ds.filter fun d => !isP d) = [] := List.filter_eq_nil_iff.mpr fun d hd' => by rw [z d hd']; simp
          rw [this]
          rfl
      simp only [hm, Bool.true_and, e2]
    · have hm' : ((ds.length : Int) == many) = false := by simpa using hm
      simp only [hm', Bool.false_and]
  | _ => rfl
def vals2 (x1 x2 x3 : Int × Int) (rs : List D) : List D := [.tup rs, .lst rs, .tup (rs ++ [.non]), .tup (rs ++ [.tup [.int 2, .int 4]]), .tup (rs ++ [FD x1]), .non, .tup [], .tup [FD x1, FD x2, FD x3]]
theorem vals2_ok (d1 : Drawn x1) (d2 : Drawn x2) (d3 : Drawn x3) (hr : Row xs) : ∀ v ∈ vals2 x1 x2 x3 (xs.map FD), SmlT v := by
  have hl : (xs.map FD).length ≤ 5 := by rw [List.length_map]; exact hr.l
  have hs : ∀ d ∈ xs.map FD, Sml d := fun d hd => by
    obtain ⟨x, hx, rfl⟩ := List.mem_map.mp hd
    exact sml_FD (hr.d x hx).p (by decide)
  have b4 : Bd 200 4 := (bd_le (n := 4) 4 (by decide) (by decide) (by decide)).mono (by decide)
  have one : ∀ e : D, Sml e → SmlT (.tup (xs.map FD ++ [e])) := fun e he => ⟨rfl, fun ds z => by
    cases z
    refine ⟨by rw [List.length_append, List.length_singleton]; omega, fun d hd => ?_⟩
    rcases List.mem_append.mp hd with q | q
    · exact hs d q
    · rw [List.mem_singleton.mp q]
      exact he⟩
  intro v hv
  unfold vals2 at hv
  simp only [List.mem_cons, List.not_mem_nil, or_false] at hv
  rcases hv with rfl | rfl | rfl | rfl | rfl | rfl | rfl | rfl
  · exact ⟨rfl, fun ds z => by cases z; exact ⟨by omega, hs⟩⟩
  · exact ⟨rfl, fun ds z => by cases z⟩
  · exact one _ (sml_nt rfl rfl)
  · exact one _ (sml_pair b4)
  · exact one _ (sml_FD d1.p (by decide))
  · exact ⟨rfl, fun ds z => by cases z⟩
  · exact ⟨rfl, fun ds z => by cases z; exact ⟨by decide, fun d hd => nomatch hd⟩⟩
  · refine ⟨rfl, fun ds z => ?_⟩
    cases z
    refine ⟨by show 3 ≤ 1000; decide, fun d hd => ?_⟩
    simp only [List.mem_cons, List.not_mem_nil, or_false] at hd
    rcases hd with rfl | rfl | rfl
    · exact sml_FD d1.p (by decide)
    · exact sml_FD d2.p (by decide)
    · exact sml_FD d3.p (by decide)
theorem law22 (d1 : Drawn x1) (d2 : Drawn x2) (d3 : Drawn x3) (hr : Row xs) (hn : n.own = false) : ∃ va' ma' : S, L_22 (LE x1 x2 x3 a b k row wh ls n lo hi td j nu su va (.sh (.tup (xs.map FD))) ma) s = .ok (.nx (LE x1 x2 x3 a b k row wh ls n lo hi td j nu su va' (.sh (.tup (xs.map FD))) ma')) s := by
  unfold L_22
  have hl : (xs.map FD).length ≤ 5 := by rw [List.length_map]; exact hr.l
  have t1 : ∀ e : D, addD (.tup (xs.map FD)) (.tup [e]) = M.ret (.tup (xs.map FD ++ [e])) := fun e => addD_tup (by show _ + 1 ≤ _; omega)
  have f0 : fits 0 = true := rfl
  have f1 : fits (0 + 1) = true := rfl
  have f2 : fits (0 + 1 + 1) = true := rfl
  have f3 : fits (0 + 1 + 1 + 1) = true := rfl
  have f8 : fits (0 + 1 + 1 + 1 + 1 + 1 + 1 + 1 + 1) = true := rfl
  obtain ⟨en', s', h, va', ma', h2, h3⟩ := for_run (ds := vals2 x1 x2 x3 (xs.map FD)) (s1 := s) (g := tgN 18) (s := s) (en := LE x1 x2 x3 a b k row wh ls n lo hi td j nu su va (.sh (.tup (xs.map FD))) ma)
    (b := (sFor (eSeq (eTup (aCons (eCall lenF (aCons (eBor 19) aNil)) (aCons (eC (.int 3)) aNil)))) (tgN 20) (sIf (eT (eBin neD (eCall m_are_parts (aCons (eVar 18) (aCons (eVar 20) aNil))) (eAnd (eIsi "tuple" (eBor 18)) (eAnd (eBin eqD (eCall lenF (aCons (eBor 18) aNil)) (eBor 20)) (eBin eqD (eCall lenF (aCons (eLc (eSeq (eBor 18)) [11] (tgN 11) (tvNot (eT (eCall m__law_is (aCons (eVar 11) aNil)))) (eVar 11)) aNil)) (eC (.int 0))))))) (sRet (eC (.bl false))) sNil)))
    (lv := eSeq (eLst (aCons (eVar 19) (aCons (eCall listF (aCons (eBor 19) aNil)) (aCons (eBin addD (eBor 19) (eTup (aCons (eC .non) aNil))) (aCons (eBin addD (eBor 19) (eTup (aCons (eTup (aCons (eC (.int 2)) (aCons (eC (.int 4)) aNil))) aNil))) (aCons (eBin addD (eBor 19) (eTup (aCons (eVar 2) aNil))) (aCons (eC .non) (aCons (eTup aNil) (aCons (eTup (aCons (eVar 2) (aCons (eVar 3) (aCons (eVar 4) aNil)))) aNil))))))))))
    (fun pre en s' => ∃ va' ma' : S, en = LE x1 x2 x3 a b k row wh ls n lo hi td j nu su va' (.sh (.tup (xs.map FD))) ma' ∧ s' = s) (by
      unfold LE
      simp only [eSeq_ap, eLst_ap, aCons_ap, aNil_ap, eVar_ap, eBor_ap, eCall_ap, eBin_ap, eTup_ap, eC_ap, slot_succ, slot_zero, M.bind_ret, List.length_cons, List.length_nil, f0, f1, f2, f3, f8, if_true, listF_tup, t1, itemsD_lst]
      rfl) ⟨va, ma, rfl, rfl⟩ (by
      rintro pre v post en s' e ⟨va', ma', rfl, rfl⟩
      have hv : SmlT v := vals2_ok d1 d2 d3 hr v (by rw [e]; exact List.mem_append_right _ List.mem_cons_self)
      refine ⟨LE x1 x2 x3 a b k row wh ls n lo hi td j nu su (.sh v) (.sh (.tup (xs.map FD))) ma', rfl, ?_⟩
      obtain ⟨en2, s2, h, ma2, h2, h3⟩ := for_map (enc := D.int) (xs := [((xs.map FD).length : Int), 3]) (s1 := s') (g := tgN 20) (s := s') (en := LE x1 x2 x3 a b k row wh ls n lo hi td j nu su (.sh v) (.sh (.tup (xs.map FD))) ma') (lv := eSeq (eTup (aCons (eCall lenF (aCons (eBor 19) aNil)) (aCons (eC (.int 3)) aNil))))
        (b := (sIf (eT (eBin neD (eCall m_are_parts (aCons (eVar 18) (aCons (eVar 20) aNil))) (eAnd (eIsi "tuple" (eBor 18)) (eAnd (eBin eqD (eCall lenF (aCons (eBor 18) aNil)) (eBor 20)) (eBin eqD (eCall lenF (aCons (eLc (eSeq (eBor 18)) [11] (tgN 11) (tvNot (eT (eCall m__law_is (aCons (eVar 11) aNil)))) (eVar 11)) aNil)) (eC (.int 0))))))) (sRet (eC (.bl false))) sNil))
        (fun pre en s2 => ∃ ma2 : S, en = LE x1 x2 x3 a b k row wh ls n lo hi td j nu su (.sh v) (.sh (.tup (xs.map FD))) ma2 ∧ s2 = s') (by
          unfold LE
          simp only [eSeq_ap, eTup_ap, aCons_ap, aNil_ap, eCall_ap, eBor_ap, eC_ap, slot_succ, slot_zero, M.bind_ret, lenF_tup, List.length_cons, List.length_nil, f2, if_true, itemsD_tup]
          rfl) ⟨ma', rfl, rfl⟩ (by
          rintro pre2 many post2 en s2 e2 ⟨ma2, rfl, rfl⟩
          refine ⟨LE x1 x2 x3 a b k row wh ls n lo hi td j nu su (.sh v) (.sh (.tup (xs.map FD))) (.sh (.int many)), rfl, LE x1 x2 x3 a b k row wh ls n lo hi td j nu su (.sh v) (.sh (.tup (xs.map FD))) (.sh (.int many)), s2, ?_, _, rfl, rfl⟩
          have hz : ∀ z : Bool, (!(z == z)) = false := fun z => by simp
          have e1 : eCall m_are_parts (aCons (eVar 18) (aCons (eVar 20) aNil)) (LE x1 x2 x3 a b k row wh ls n lo hi td j nu su (.sh v) (.sh (.tup (xs.map FD))) (.sh (.int many))) = M.ret (.bl (areP v many)) := are_parts_eq hv
          rw [sIf_ap, eT_ap, eBin_ap, e1, law_are hv hn]
          simp only [M.bind_ret, neD_bl, hz, Bool.false_eq_true, if_false, sNil_ap]
          rfl)
      exact ⟨en2, s2, h, _, ma2, h2, h3⟩)
  exact ⟨va', ma', by rw [h, h2, h3]⟩
end
/-! ### the whole law -/
theorem law_math {s : LS} (h : StG s) : ∃ s', v_law env0 s = .ok (.rt (.bl true)) s' := by
  obtain ⟨x1, x2, x3, s1, ⟨en, e0, rfl⟩, g1, d1, d2, d3⟩ := law0 h
  obtain ⟨a, b, s2, e1, g2, ha, hb⟩ := law1 (x1 := x1) (x2 := x2) (x3 := x3) g1
  have ret : ∀ {sv : SV} {en en1 : DL.Env} (s : LS), sv en = M.ret (.nx en1) → sv en s = .ok (.nx en1) s := fun s e => by rw [e]; rfl
  obtain ⟨xs, k6, s3, e6, g3, hk6, hl, hd⟩ := law6 (x1 := x1) (x2 := x2) (x3 := x3) (a := a) (b := b) (row := .un) (wh := .un) (ls := .un) (n := .un) (lo := .un) (hi := .un) (td := .un) (j := .un) (nu := .un) (su := .un) (va := .un) (ro := .un) (ma := .un) (k := .un) g2 rfl
  have hr : Row xs := ⟨hl, hd⟩
  obtain ⟨n8, hn8, e8⟩ := law8 (x1 := x1) (x2 := x2) (x3 := x3) (a := a) (b := b) (k := k6) (n := .un) (lo := .un) (hi := .un) (td := .un) (j := .un) (nu := .un) (su := .un) (va := .un) (ro := .un) (ma := .un) (s := s3) hr rfl
  obtain ⟨k15, j15, hk15, e15⟩ := law15 (x1 := x1) (x2 := x2) (x3 := x3) (a := a) (b := b) (k := k6) (wh := .sh (FD (totQ xs))) (ls := .sh (OD (lsQ xs))) (n := n8) (lo := .sh (.int (x1.1 / x1.2))) (hi := .sh (.int (0 - (0 - x1.1) / x1.2))) (j := .un) (nu := .un) (su := .un) (va := .un) (ro := .un) (ma := .un) (s := s3) hr hk6
  obtain ⟨ns, s4, e16, g4, hnl, hnb⟩ := law16 (x1 := x1) (x2 := x2) (x3 := x3) (a := a) (b := b) (k := k15) (wh := .sh (FD (totQ xs))) (ls := .sh (OD (lsQ xs))) (n := n8) (lo := .sh (.int (x1.1 / x1.2))) (hi := .sh (.int (0 - (0 - x1.1) / x1.2))) (td := TD xs) (j := j15) (nu := .un) (su := .un) (va := .un) (ro := .un) (ma := .un) hr g3 hn8
  obtain ⟨k18, hk18, e18⟩ := law18 (x1 := x1) (x2 := x2) (x3 := x3) (a := a) (b := b) (k := k15) (wh := .sh (FD (totQ xs))) (ls := .sh (OD (lsQ xs))) (n := n8) (lo := .sh (.int (x1.1 / x1.2))) (hi := .sh (.int (0 - (0 - x1.1) / x1.2))) (td := TD xs) (j := j15) (va := .un) (ro := .un) (ma := .un) (s := s4) hr hk15 hnl hnb
  obtain ⟨va20, e20⟩ := law20 (x1 := x1) (x2 := x2) (x3 := x3) (a := a) (b := b) (k := k18) (row := RD xs) (wh := .sh (FD (totQ xs))) (ls := .sh (OD (lsQ xs))) (n := n8) (lo := .sh (.int (x1.1 / x1.2))) (hi := .sh (.int (0 - (0 - x1.1) / x1.2))) (td := TD xs) (j := j15) (nu := .sh (.lst (ns.map D.int))) (su := .sh (FD (totQ ((List.range ns.length).map (itm ns xs))))) (va := .un) (ro := .un) (ma := .un) (s := s4) d1
  obtain ⟨va22, ma22, e22⟩ := law22 (x1 := x1) (x2 := x2) (x3 := x3) (a := a) (b := b) (k := k18) (row := RD xs) (wh := .sh (FD (totQ xs))) (ls := .sh (OD (lsQ xs))) (n := n8) (lo := .sh (.int (x1.1 / x1.2))) (hi := .sh (.int (0 - (0 - x1.1) / x1.2))) (td := TD xs) (j := j15) (nu := .sh (.lst (ns.map D.int))) (su := .sh (FD (totQ ((List.range ns.length).map (itm ns xs))))) (va := va20) (ma := .un) (s := s4) d1 d2 d3 hr hn8
  refine ⟨s4, ?_⟩
  unfold v_law
  rw [seq_ok e0, seq_ok e1, seq_ok (ret s2 (law2 ha hb)), seq_ok (ret s2 (law3 d1 d2)), seq_ok (ret s2 (law4 d1 d2)), seq_ok (ret s2 (law5 d1 d2)), seq_ok e6, seq_ok (ret s3 law7), seq_ok e8, seq_ok (ret s3 (law9 hr hn8)), seq_ok (ret s3 (law10 d1)), seq_ok (ret s3 (law11 d1)), seq_ok (ret s3 law12), seq_ok (ret s3 (law13 hr hn8)), seq_ok (ret s3 (law14 hr hn8)), seq_ok e15, seq_ok e16, seq_ok (ret s4 law17), seq_ok e18, seq_ok (ret s4 (law19 hr hn8 hnl hnb)), seq_ok e20, seq_ok (ret s4 law21), seq_ok e22]
  rfl
theorem cells_good (ns : List Int) : StG ⟨0, cells0 ns⟩ := by
  unfold StG cells0
  split
  · exact Nat.one_ne_zero
  · assumption
end K10

set_option Elab.async false
set_option linter.all false
set_option maxRecDepth 100000
set_option maxHeartbeats 4000000
namespace K10
open PySem PySem.Spec PyProof.Rows L2 DL
def spLaw (K : PySem.W.Frag) : Sp := fun vs H Q _ => ∃ (a : Addr) (ns : List Int), vs = [.ref a] ∧ SqL K H a (ns.map V.int) ∧ ns.length ≤ 63 ∧ ∀ H1, Q (.bl true) H1
theorem ok_law {P : Program} {w : World} {K : PySem.W.Frag} {mg : Str → Option Value} {base : Heap} (T : Tx K mg) : FnOk P w K mg base CX0 6 T.a_law T.d_law ["script"] (spLaw K) := by
  have G_divisor := ok_divisor (P := P) (w := w) (base := base) T 
  have G_is_less := ok_is_less (P := P) (w := w) (base := base) T 
  have G_whole_below := ok_whole_below (P := P) (w := w) (base := base) T 
  have G_whole_above := ok_whole_above (P := P) (w := w) (base := base) T 
  have G_is_whole_part := ok_is_whole_part (P := P) (w := w) (base := base) T 
  have G__law_take := ok_take T (P := P) (w := w) (base := base)
  have G__law_fr := ok__law_fr (P := P) (w := w) (base := base) T 
  have G__law_sign := ok__law_sign (P := P) (w := w) (base := base) T 
  have G__law_gcd := ok__law_gcd (P := P) (w := w) (base := base) T 
  have G_part := ok_part (P := P) (w := w) (base := base) T G_divisor
  have G_is_part := ok_is_part (P := P) (w := w) (base := base) T G_divisor
  have G_least_of := ok_least_of (P := P) (w := w) (base := base) T G_is_less
  have G_scaled := ok_scaled (P := P) (w := w) (base := base) T G_divisor
  have G__law_pick := ok__law_pick (P := P) (w := w) (base := base) T G__law_take
  have G__law_add := ok__law_add (P := P) (w := w) (base := base) T G__law_fr
  have G__law_mul := ok__law_mul (P := P) (w := w) (base := base) T G__law_fr
  have G__law_gcd_of := ok__law_gcd_of (P := P) (w := w) (base := base) T G__law_gcd
  have G__law_is := ok__law_is (P := P) (w := w) (base := base) T G__law_gcd
  have G_plus := ok_plus (P := P) (w := w) (base := base) T G_part
  have G_minus := ok_minus (P := P) (w := w) (base := base) T G_part
  have G_times := ok_times (P := P) (w := w) (base := base) T G_part
  have G_over := ok_over (P := P) (w := w) (base := base) T G_part
  have G_are_parts := ok_are_parts (P := P) (w := w) (base := base) T G_is_part
  have G__law_sub := ok__law_sub (P := P) (w := w) (base := base) T G__law_add
  have G__law_part := ok__law_part (P := P) (w := w) (base := base) T G__law_fr G__law_pick G__law_take
  have G_total := ok_total (P := P) (w := w) (base := base) T G_plus
  have G_dot := ok_dot (P := P) (w := w) (base := base) T G_times G_total
  refine T.f_law.ok sc_law (fun vs H Q E h => ?_) (fun cdv A outer s H vs Q E hr h => ?_)
  · obtain ⟨a, ns, rfl, _⟩ := h
    rfl
  · obtain ⟨a, ns, rfl, hS, hlen, k⟩ := h
    refine ⟨_, pss_cons (ps_set (i := 1) sc_law.nd rfl (.inr rfl) (pe_call (ok_state T) (hr.mono (by decide)) (by rfl) T.g__law_state T.f__law_state.kp T.b__law_state .nil pass0 (pa_cons (pv 0) pa_nil))) (rest_law T G__law_add G__law_fr G__law_gcd G__law_gcd_of G__law_is G__law_mul G__law_part G__law_sign G__law_sub G__law_take G_are_parts G_divisor G_dot G_is_less G_is_part G_is_whole_part G_least_of G_minus G_over G_part G_plus G_scaled G_times G_total G_whole_above G_whole_below hr).p, ?_⟩
    refine ⟨.ref a, rfl, a, ns, rfl, hS, hlen, fun H1 a0 a1 sm n0 n1 n01 h0 h1 => ?_⟩
    refine ⟨some (a0, a1), H1, fun _ => none, env0, fun _ => none, ⟨0, cells0 ns⟩, ⟨rfl, fun i => ?_, fun i j _ hi _ => ?_, (fun _ _ e => nomatch e), .refl, fun p e => ?_⟩, ?_⟩
    · match i with
      | 1 => exact ⟨_, rfl, _, rfl, rfl⟩
      | 0 => exact trivial
      | 2 => exact trivial
      | 3 => exact trivial
      | 4 => exact trivial
      | 5 => exact trivial
      | 6 => exact trivial
      | 7 => exact trivial
      | 8 => exact trivial
      | 9 => exact trivial
      | 10 => exact trivial
      | 11 => exact trivial
      | 12 => exact trivial
      | 13 => exact trivial
      | 14 => exact trivial
      | 15 => exact trivial
      | 16 => exact trivial
      | 17 => exact trivial
      | 18 => exact trivial
      | 19 => exact trivial
      | 20 => exact trivial
      | n + 21 => exact trivial
    · match i with
      | 0 => exact nomatch hi
      | 1 => exact nomatch hi
      | 2 => exact nomatch hi
      | 3 => exact nomatch hi
      | 4 => exact nomatch hi
      | 5 => exact nomatch hi
      | 6 => exact nomatch hi
      | 7 => exact nomatch hi
      | 8 => exact nomatch hi
      | 9 => exact nomatch hi
      | 10 => exact nomatch hi
      | 11 => exact nomatch hi
      | 12 => exact nomatch hi
      | 13 => exact nomatch hi
      | 14 => exact nomatch hi
      | 15 => exact nomatch hi
      | 16 => exact nomatch hi
      | 17 => exact nomatch hi
      | 18 => exact nomatch hi
      | 19 => exact nomatch hi
      | 20 => exact nomatch hi
      | n + 21 => exact nomatch hi
    · cases e
      exact ⟨n01, rfl, rfl, h0, h1⟩
    · obtain ⟨s2, e2⟩ := law_math (cells_good ns)
      rw [e2]
      intro v H2 G2 _ _ _ rv
      rw [show v = V.bl true from rv]
      exact k H2
theorem all_mk {l : PySem.W.OpenLaw} {w : World} {K : PySem.W.Frag} {h : Heap} {mg : Str → Option Value} {fa : Addr} (X : K.In h) (G : h.Ns mainGlobals mg) (hfa : mg "law" = some (.ref fa))
    {x0 : Addr} {od0 an0 : Option Addr} {sl0 : Array (Option Value)} {oc0 kV0 dc0 pm0 cd0 ct0 : Value}
    {x1 : Addr} {od1 an1 : Option Addr} {sl1 : Array (Option Value)} {oc1 kV1 dc1 pm1 cd1 ct1 : Value}
    {x2 : Addr} {od2 an2 : Option Addr} {sl2 : Array (Option Value)} {oc2 kV2 dc2 pm2 cd2 ct2 : Value}
    {x3 : Addr} {od3 an3 : Option Addr} {sl3 : Array (Option Value)} {oc3 kV3 dc3 pm3 cd3 ct3 : Value}
    {x4 : Addr} {od4 an4 : Option Addr} {sl4 : Array (Option Value)} {oc4 kV4 dc4 pm4 cd4 ct4 : Value}
    {x5 : Addr} {od5 an5 : Option Addr} {sl5 : Array (Option Value)} {oc5 kV5 dc5 pm5 cd5 ct5 : Value}
    {x6 : Addr} {od6 an6 : Option Addr} {sl6 : Array (Option Value)} {oc6 kV6 dc6 pm6 cd6 ct6 : Value}
    {x7 : Addr} {od7 an7 : Option Addr} {sl7 : Array (Option Value)} {oc7 kV7 dc7 pm7 cd7 ct7 : Value}
    {x8 : Addr} {od8 an8 : Option Addr} {sl8 : Array (Option Value)} {oc8 kV8 dc8 pm8 cd8 ct8 : Value}
    {x9 : Addr} {od9 an9 : Option Addr} {sl9 : Array (Option Value)} {oc9 kV9 dc9 pm9 cd9 ct9 : Value}
    {x10 : Addr} {od10 an10 : Option Addr} {sl10 : Array (Option Value)} {oc10 kV10 dc10 pm10 cd10 ct10 : Value}
    {x11 : Addr} {od11 an11 : Option Addr} {sl11 : Array (Option Value)} {oc11 kV11 dc11 pm11 cd11 ct11 : Value}
    {x12 : Addr} {od12 an12 : Option Addr} {sl12 : Array (Option Value)} {oc12 kV12 dc12 pm12 cd12 ct12 : Value}
    {x13 : Addr} {od13 an13 : Option Addr} {sl13 : Array (Option Value)} {oc13 kV13 dc13 pm13 cd13 ct13 : Value}
    {x14 : Addr} {od14 an14 : Option Addr} {sl14 : Array (Option Value)} {oc14 kV14 dc14 pm14 cd14 ct14 : Value}
    {x15 : Addr} {od15 an15 : Option Addr} {sl15 : Array (Option Value)} {oc15 kV15 dc15 pm15 cd15 ct15 : Value}
    {x16 : Addr} {od16 an16 : Option Addr} {sl16 : Array (Option Value)} {oc16 kV16 dc16 pm16 cd16 ct16 : Value}
    {x17 : Addr} {od17 an17 : Option Addr} {sl17 : Array (Option Value)} {oc17 kV17 dc17 pm17 cd17 ct17 : Value}
    {x18 : Addr} {od18 an18 : Option Addr} {sl18 : Array (Option Value)} {oc18 kV18 dc18 pm18 cd18 ct18 : Value}
    {x19 : Addr} {od19 an19 : Option Addr} {sl19 : Array (Option Value)} {oc19 kV19 dc19 pm19 cd19 ct19 : Value}
    {x20 : Addr} {od20 an20 : Option Addr} {sl20 : Array (Option Value)} {oc20 kV20 dc20 pm20 cd20 ct20 : Value}
    {x21 : Addr} {od21 an21 : Option Addr} {sl21 : Array (Option Value)} {oc21 kV21 dc21 pm21 cd21 ct21 : Value}
    {x22 : Addr} {od22 an22 : Option Addr} {sl22 : Array (Option Value)} {oc22 kV22 dc22 pm22 cd22 ct22 : Value}
    {x23 : Addr} {od23 an23 : Option Addr} {sl23 : Array (Option Value)} {oc23 kV23 dc23 pm23 cd23 ct23 : Value}
    {x24 : Addr} {od24 an24 : Option Addr} {sl24 : Array (Option Value)} {oc24 kV24 dc24 pm24 cd24 ct24 : Value}
    {x25 : Addr} {od25 an25 : Option Addr} {sl25 : Array (Option Value)} {oc25 kV25 dc25 pm25 cd25 ct25 : Value}
    {x26 : Addr} {od26 an26 : Option Addr} {sl26 : Array (Option Value)} {oc26 kV26 dc26 pm26 cd26 ct26 : Value}
    {x27 : Addr} {od27 an27 : Option Addr} {sl27 : Array (Option Value)} {oc27 kV27 dc27 pm27 cd27 ct27 : Value}
    {x28 : Addr} {od28 an28 : Option Addr} {sl28 : Array (Option Value)} {oc28 kV28 dc28 pm28 cd28 ct28 : Value}
    (a0 : PySem.W.nsIn K mainGlobals "divisor" = some (some (.ref x0))) (l0 : K.lookup x0 = some ⟨oc0, od0, .func (PySem.W.fnOf "divisor" "divisor" (defArgs sF_divisor) (defBody sF_divisor) (defScope sF_divisor) .none kV0 dc0 pm0 an0 cd0 ct0), sl0⟩) (c0 : PySem.W.codeIn K cd0 "divisor" = true) (k0 : PySem.W.keepIn K (.ref x0) = true)
    (a1 : PySem.W.nsIn K mainGlobals "is_less" = some (some (.ref x1))) (l1 : K.lookup x1 = some ⟨oc1, od1, .func (PySem.W.fnOf "is_less" "is_less" (defArgs sF_is_less) (defBody sF_is_less) (defScope sF_is_less) .none kV1 dc1 pm1 an1 cd1 ct1), sl1⟩) (c1 : PySem.W.codeIn K cd1 "is_less" = true) (k1 : PySem.W.keepIn K (.ref x1) = true)
    (a2 : PySem.W.nsIn K mainGlobals "whole_below" = some (some (.ref x2))) (l2 : K.lookup x2 = some ⟨oc2, od2, .func (PySem.W.fnOf "whole_below" "whole_below" (defArgs sF_whole_below) (defBody sF_whole_below) (defScope sF_whole_below) .none kV2 dc2 pm2 an2 cd2 ct2), sl2⟩) (c2 : PySem.W.codeIn K cd2 "whole_below" = true) (k2 : PySem.W.keepIn K (.ref x2) = true)
    (a3 : PySem.W.nsIn K mainGlobals "whole_above" = some (some (.ref x3))) (l3 : K.lookup x3 = some ⟨oc3, od3, .func (PySem.W.fnOf "whole_above" "whole_above" (defArgs sF_whole_above) (defBody sF_whole_above) (defScope sF_whole_above) .none kV3 dc3 pm3 an3 cd3 ct3), sl3⟩) (c3 : PySem.W.codeIn K cd3 "whole_above" = true) (k3 : PySem.W.keepIn K (.ref x3) = true)
    (a4 : PySem.W.nsIn K mainGlobals "is_whole_part" = some (some (.ref x4))) (l4 : K.lookup x4 = some ⟨oc4, od4, .func (PySem.W.fnOf "is_whole_part" "is_whole_part" (defArgs sF_is_whole_part) (defBody sF_is_whole_part) (defScope sF_is_whole_part) .none kV4 dc4 pm4 an4 cd4 ct4), sl4⟩) (c4 : PySem.W.codeIn K cd4 "is_whole_part" = true) (k4 : PySem.W.keepIn K (.ref x4) = true)
    (a5 : PySem.W.nsIn K mainGlobals "_law_state" = some (some (.ref x5))) (l5 : K.lookup x5 = some ⟨oc5, od5, .func (PySem.W.fnOf "_law_state" "_law_state" (defArgs sF__law_state) (defBody sF__law_state) (defScope sF__law_state) .none kV5 dc5 pm5 an5 cd5 ct5), sl5⟩) (c5 : PySem.W.codeIn K cd5 "_law_state" = true) (k5 : PySem.W.keepIn K (.ref x5) = true)
    (a6 : PySem.W.nsIn K mainGlobals "_law_take" = some (some (.ref x6))) (l6 : K.lookup x6 = some ⟨oc6, od6, .func (PySem.W.fnOf "_law_take" "_law_take" (defArgs sF__law_take) (defBody sF__law_take) (defScope sF__law_take) .none kV6 dc6 pm6 an6 cd6 ct6), sl6⟩) (c6 : PySem.W.codeIn K cd6 "_law_take" = true) (k6 : PySem.W.keepIn K (.ref x6) = true)
    (a7 : PySem.W.nsIn K mainGlobals "_law_fr" = some (some (.ref x7))) (l7 : K.lookup x7 = some ⟨oc7, od7, .func (PySem.W.fnOf "_law_fr" "_law_fr" (defArgs sF__law_fr) (defBody sF__law_fr) (defScope sF__law_fr) .none kV7 dc7 pm7 an7 cd7 ct7), sl7⟩) (c7 : PySem.W.codeIn K cd7 "_law_fr" = true) (k7 : PySem.W.keepIn K (.ref x7) = true)
    (a8 : PySem.W.nsIn K mainGlobals "_law_sign" = some (some (.ref x8))) (l8 : K.lookup x8 = some ⟨oc8, od8, .func (PySem.W.fnOf "_law_sign" "_law_sign" (defArgs sF__law_sign) (defBody sF__law_sign) (defScope sF__law_sign) .none kV8 dc8 pm8 an8 cd8 ct8), sl8⟩) (c8 : PySem.W.codeIn K cd8 "_law_sign" = true) (k8 : PySem.W.keepIn K (.ref x8) = true)
    (a9 : PySem.W.nsIn K mainGlobals "_law_gcd" = some (some (.ref x9))) (l9 : K.lookup x9 = some ⟨oc9, od9, .func (PySem.W.fnOf "_law_gcd" "_law_gcd" (defArgs sF__law_gcd) (defBody sF__law_gcd) (defScope sF__law_gcd) .none kV9 dc9 pm9 an9 cd9 ct9), sl9⟩) (c9 : PySem.W.codeIn K cd9 "_law_gcd" = true) (k9 : PySem.W.keepIn K (.ref x9) = true)
    (a10 : PySem.W.nsIn K mainGlobals "part" = some (some (.ref x10))) (l10 : K.lookup x10 = some ⟨oc10, od10, .func (PySem.W.fnOf "part" "part" (defArgs sF_part) (defBody sF_part) (defScope sF_part) .none kV10 dc10 pm10 an10 cd10 ct10), sl10⟩) (c10 : PySem.W.codeIn K cd10 "part" = true) (k10 : PySem.W.keepIn K (.ref x10) = true)
    (a11 : PySem.W.nsIn K mainGlobals "is_part" = some (some (.ref x11))) (l11 : K.lookup x11 = some ⟨oc11, od11, .func (PySem.W.fnOf "is_part" "is_part" (defArgs sF_is_part) (defBody sF_is_part) (defScope sF_is_part) .none kV11 dc11 pm11 an11 cd11 ct11), sl11⟩) (c11 : PySem.W.codeIn K cd11 "is_part" = true) (k11 : PySem.W.keepIn K (.ref x11) = true)
    (a12 : PySem.W.nsIn K mainGlobals "least_of" = some (some (.ref x12))) (l12 : K.lookup x12 = some ⟨oc12, od12, .func (PySem.W.fnOf "least_of" "least_of" (defArgs sF_least_of) (defBody sF_least_of) (defScope sF_least_of) .none kV12 dc12 pm12 an12 cd12 ct12), sl12⟩) (c12 : PySem.W.codeIn K cd12 "least_of" = true) (k12 : PySem.W.keepIn K (.ref x12) = true)
    (a13 : PySem.W.nsIn K mainGlobals "scaled" = some (some (.ref x13))) (l13 : K.lookup x13 = some ⟨oc13, od13, .func (PySem.W.fnOf "scaled" "scaled" (defArgs sF_scaled) (defBody sF_scaled) (defScope sF_scaled) .none kV13 dc13 pm13 an13 cd13 ct13), sl13⟩) (c13 : PySem.W.codeIn K cd13 "scaled" = true) (k13 : PySem.W.keepIn K (.ref x13) = true)
    (a14 : PySem.W.nsIn K mainGlobals "_law_pick" = some (some (.ref x14))) (l14 : K.lookup x14 = some ⟨oc14, od14, .func (PySem.W.fnOf "_law_pick" "_law_pick" (defArgs sF__law_pick) (defBody sF__law_pick) (defScope sF__law_pick) .none kV14 dc14 pm14 an14 cd14 ct14), sl14⟩) (c14 : PySem.W.codeIn K cd14 "_law_pick" = true) (k14 : PySem.W.keepIn K (.ref x14) = true)
    (a15 : PySem.W.nsIn K mainGlobals "_law_add" = some (some (.ref x15))) (l15 : K.lookup x15 = some ⟨oc15, od15, .func (PySem.W.fnOf "_law_add" "_law_add" (defArgs sF__law_add) (defBody sF__law_add) (defScope sF__law_add) .none kV15 dc15 pm15 an15 cd15 ct15), sl15⟩) (c15 : PySem.W.codeIn K cd15 "_law_add" = true) (k15 : PySem.W.keepIn K (.ref x15) = true)
    (a16 : PySem.W.nsIn K mainGlobals "_law_mul" = some (some (.ref x16))) (l16 : K.lookup x16 = some ⟨oc16, od16, .func (PySem.W.fnOf "_law_mul" "_law_mul" (defArgs sF__law_mul) (defBody sF__law_mul) (defScope sF__law_mul) .none kV16 dc16 pm16 an16 cd16 ct16), sl16⟩) (c16 : PySem.W.codeIn K cd16 "_law_mul" = true) (k16 : PySem.W.keepIn K (.ref x16) = true)
    (a17 : PySem.W.nsIn K mainGlobals "_law_gcd_of" = some (some (.ref x17))) (l17 : K.lookup x17 = some ⟨oc17, od17, .func (PySem.W.fnOf "_law_gcd_of" "_law_gcd_of" (defArgs sF__law_gcd_of) (defBody sF__law_gcd_of) (defScope sF__law_gcd_of) .none kV17 dc17 pm17 an17 cd17 ct17), sl17⟩) (c17 : PySem.W.codeIn K cd17 "_law_gcd_of" = true) (k17 : PySem.W.keepIn K (.ref x17) = true)
    (a18 : PySem.W.nsIn K mainGlobals "_law_is" = some (some (.ref x18))) (l18 : K.lookup x18 = some ⟨oc18, od18, .func (PySem.W.fnOf "_law_is" "_law_is" (defArgs sF__law_is) (defBody sF__law_is) (defScope sF__law_is) .none kV18 dc18 pm18 an18 cd18 ct18), sl18⟩) (c18 : PySem.W.codeIn K cd18 "_law_is" = true) (k18 : PySem.W.keepIn K (.ref x18) = true)
    (a19 : PySem.W.nsIn K mainGlobals "plus" = some (some (.ref x19))) (l19 : K.lookup x19 = some ⟨oc19, od19, .func (PySem.W.fnOf "plus" "plus" (defArgs sF_plus) (defBody sF_plus) (defScope sF_plus) .none kV19 dc19 pm19 an19 cd19 ct19), sl19⟩) (c19 : PySem.W.codeIn K cd19 "plus" = true) (k19 : PySem.W.keepIn K (.ref x19) = true)
    (a20 : PySem.W.nsIn K mainGlobals "minus" = some (some (.ref x20))) (l20 : K.lookup x20 = some ⟨oc20, od20, .func (PySem.W.fnOf "minus" "minus" (defArgs sF_minus) (defBody sF_minus) (defScope sF_minus) .none kV20 dc20 pm20 an20 cd20 ct20), sl20⟩) (c20 : PySem.W.codeIn K cd20 "minus" = true) (k20 : PySem.W.keepIn K (.ref x20) = true)
    (a21 : PySem.W.nsIn K mainGlobals "times" = some (some (.ref x21))) (l21 : K.lookup x21 = some ⟨oc21, od21, .func (PySem.W.fnOf "times" "times" (defArgs sF_times) (defBody sF_times) (defScope sF_times) .none kV21 dc21 pm21 an21 cd21 ct21), sl21⟩) (c21 : PySem.W.codeIn K cd21 "times" = true) (k21 : PySem.W.keepIn K (.ref x21) = true)
    (a22 : PySem.W.nsIn K mainGlobals "over" = some (some (.ref x22))) (l22 : K.lookup x22 = some ⟨oc22, od22, .func (PySem.W.fnOf "over" "over" (defArgs sF_over) (defBody sF_over) (defScope sF_over) .none kV22 dc22 pm22 an22 cd22 ct22), sl22⟩) (c22 : PySem.W.codeIn K cd22 "over" = true) (k22 : PySem.W.keepIn K (.ref x22) = true)
    (a23 : PySem.W.nsIn K mainGlobals "are_parts" = some (some (.ref x23))) (l23 : K.lookup x23 = some ⟨oc23, od23, .func (PySem.W.fnOf "are_parts" "are_parts" (defArgs sF_are_parts) (defBody sF_are_parts) (defScope sF_are_parts) .none kV23 dc23 pm23 an23 cd23 ct23), sl23⟩) (c23 : PySem.W.codeIn K cd23 "are_parts" = true) (k23 : PySem.W.keepIn K (.ref x23) = true)
    (a24 : PySem.W.nsIn K mainGlobals "_law_sub" = some (some (.ref x24))) (l24 : K.lookup x24 = some ⟨oc24, od24, .func (PySem.W.fnOf "_law_sub" "_law_sub" (defArgs sF__law_sub) (defBody sF__law_sub) (defScope sF__law_sub) .none kV24 dc24 pm24 an24 cd24 ct24), sl24⟩) (c24 : PySem.W.codeIn K cd24 "_law_sub" = true) (k24 : PySem.W.keepIn K (.ref x24) = true)
    (a25 : PySem.W.nsIn K mainGlobals "_law_part" = some (some (.ref x25))) (l25 : K.lookup x25 = some ⟨oc25, od25, .func (PySem.W.fnOf "_law_part" "_law_part" (defArgs sF__law_part) (defBody sF__law_part) (defScope sF__law_part) .none kV25 dc25 pm25 an25 cd25 ct25), sl25⟩) (c25 : PySem.W.codeIn K cd25 "_law_part" = true) (k25 : PySem.W.keepIn K (.ref x25) = true)
    (a26 : PySem.W.nsIn K mainGlobals "total" = some (some (.ref x26))) (l26 : K.lookup x26 = some ⟨oc26, od26, .func (PySem.W.fnOf "total" "total" (defArgs sF_total) (defBody sF_total) (defScope sF_total) .none kV26 dc26 pm26 an26 cd26 ct26), sl26⟩) (c26 : PySem.W.codeIn K cd26 "total" = true) (k26 : PySem.W.keepIn K (.ref x26) = true)
    (a27 : PySem.W.nsIn K mainGlobals "dot" = some (some (.ref x27))) (l27 : K.lookup x27 = some ⟨oc27, od27, .func (PySem.W.fnOf "dot" "dot" (defArgs sF_dot) (defBody sF_dot) (defScope sF_dot) .none kV27 dc27 pm27 an27 cd27 ct27), sl27⟩) (c27 : PySem.W.codeIn K cd27 "dot" = true) (k27 : PySem.W.keepIn K (.ref x27) = true)
    (a28 : PySem.W.nsIn K mainGlobals "law" = some (some (.ref x28))) (l28 : K.lookup x28 = some ⟨oc28, od28, .func (PySem.W.fnOf "law" "law" (defArgs sF_law) (defBody sF_law) (defScope sF_law) .none kV28 dc28 pm28 an28 cd28 ct28), sl28⟩) (c28 : PySem.W.codeIn K cd28 "law" = true) (k28 : PySem.W.keepIn K (.ref x28) = true)
    (z_abs : PySem.W.nsIn K mainGlobals "abs" = some none)
    (z_all : PySem.W.nsIn K mainGlobals "all" = some none)
    (z_bool : PySem.W.nsIn K mainGlobals "bool" = some none)
    (z_int : PySem.W.nsIn K mainGlobals "int" = some none)
    (z_isinstance : PySem.W.nsIn K mainGlobals "isinstance" = some none)
    (z_len : PySem.W.nsIn K mainGlobals "len" = some none)
    (z_list : PySem.W.nsIn K mainGlobals "list" = some none)
    (z_max : PySem.W.nsIn K mainGlobals "max" = some none)
    (z_range : PySem.W.nsIn K mainGlobals "range" = some none)
    (z_tuple : PySem.W.nsIn K mainGlobals "tuple" = some none)
    : ∃ fd : FuncData, (∀ (s : Shared) (v : Value), BindsTo s fd ⟨[v], []⟩ [("script", v)]) ∧ ∀ base : Heap, K.In base → base.Ns mainGlobals mg → FnOk l.prog w K mg base CX0 6 fa fd ["script"] (spLaw K) := by
  have e := hfa.symm.trans (PySem.W.mg_of X G a28)
  cases e
  have F0 := fun_mk (st := sF_divisor) l0 c0 k0
  have b0 := F0.binds (ps := ["one", "other"]) fun _ _ _ _ _ _ us hl => match us, hl with | [_, _], _ => rfl
  have F1 := fun_mk (st := sF_is_less) l1 c1 k1
  have b1 := F1.binds (ps := ["one", "other"]) fun _ _ _ _ _ _ us hl => match us, hl with | [_, _], _ => rfl
  have F2 := fun_mk (st := sF_whole_below) l2 c2 k2
  have b2 := F2.binds (ps := ["one"]) fun _ _ _ _ _ _ us hl => match us, hl with | [_], _ => rfl
  have F3 := fun_mk (st := sF_whole_above) l3 c3 k3
  have b3 := F3.binds (ps := ["one"]) fun _ _ _ _ _ _ us hl => match us, hl with | [_], _ => rfl
  have F4 := fun_mk (st := sF_is_whole_part) l4 c4 k4
  have b4 := F4.binds (ps := ["one"]) fun _ _ _ _ _ _ us hl => match us, hl with | [_], _ => rfl
  have F5 := fun_mk (st := sF__law_state) l5 c5 k5
  have b5 := F5.binds (ps := ["script"]) fun _ _ _ _ _ _ us hl => match us, hl with | [_], _ => rfl
  have F6 := fun_mk (st := sF__law_take) l6 c6 k6
  have b6 := F6.binds (ps := ["state", "most"]) fun _ _ _ _ _ _ us hl => match us, hl with | [_, _], _ => rfl
  have F7 := fun_mk (st := sF__law_fr) l7 c7 k7
  have b7 := F7.binds (ps := ["above", "below"]) fun _ _ _ _ _ _ us hl => match us, hl with | [_, _], _ => rfl
  have F8 := fun_mk (st := sF__law_sign) l8 c8 k8
  have b8 := F8.binds (ps := ["one", "other"]) fun _ _ _ _ _ _ us hl => match us, hl with | [_, _], _ => rfl
  have F9 := fun_mk (st := sF__law_gcd) l9 c9 k9
  have b9 := F9.binds (ps := ["one", "other"]) fun _ _ _ _ _ _ us hl => match us, hl with | [_, _], _ => rfl
  have F10 := fun_mk (st := sF_part) l10 c10 k10
  have b10 := F10.binds (ps := ["above", "below"]) fun _ _ _ _ _ _ us hl => match us, hl with | [_, _], _ => rfl
  have F11 := fun_mk (st := sF_is_part) l11 c11 k11
  have b11 := F11.binds (ps := ["value"]) fun _ _ _ _ _ _ us hl => match us, hl with | [_], _ => rfl
  have F12 := fun_mk (st := sF_least_of) l12 c12 k12
  have b12 := F12.binds (ps := ["row"]) fun _ _ _ _ _ _ us hl => match us, hl with | [_], _ => rfl
  have F13 := fun_mk (st := sF_scaled) l13 c13 k13
  have b13 := F13.binds (ps := ["row"]) fun _ _ _ _ _ _ us hl => match us, hl with | [_], _ => rfl
  have F14 := fun_mk (st := sF__law_pick) l14 c14 k14
  have b14 := F14.binds (ps := ["state", "row"]) fun _ _ _ _ _ _ us hl => match us, hl with | [_, _], _ => rfl
  have F15 := fun_mk (st := sF__law_add) l15 c15 k15
  have b15 := F15.binds (ps := ["one", "other"]) fun _ _ _ _ _ _ us hl => match us, hl with | [_, _], _ => rfl
  have F16 := fun_mk (st := sF__law_mul) l16 c16 k16
  have b16 := F16.binds (ps := ["one", "other"]) fun _ _ _ _ _ _ us hl => match us, hl with | [_, _], _ => rfl
  have F17 := fun_mk (st := sF__law_gcd_of) l17 c17 k17
  have b17 := F17.binds (ps := ["row"]) fun _ _ _ _ _ _ us hl => match us, hl with | [_], _ => rfl
  have F18 := fun_mk (st := sF__law_is) l18 c18 k18
  have b18 := F18.binds (ps := ["value"]) fun _ _ _ _ _ _ us hl => match us, hl with | [_], _ => rfl
  have F19 := fun_mk (st := sF_plus) l19 c19 k19
  have b19 := F19.binds (ps := ["one", "other"]) fun _ _ _ _ _ _ us hl => match us, hl with | [_, _], _ => rfl
  have F20 := fun_mk (st := sF_minus) l20 c20 k20
  have b20 := F20.binds (ps := ["one", "other"]) fun _ _ _ _ _ _ us hl => match us, hl with | [_, _], _ => rfl
  have F21 := fun_mk (st := sF_times) l21 c21 k21
  have b21 := F21.binds (ps := ["one", "other"]) fun _ _ _ _ _ _ us hl => match us, hl with | [_, _], _ => rfl
  have F22 := fun_mk (st := sF_over) l22 c22 k22
  have b22 := F22.binds (ps := ["one", "other"]) fun _ _ _ _ _ _ us hl => match us, hl with | [_, _], _ => rfl
  have F23 := fun_mk (st := sF_are_parts) l23 c23 k23
  have b23 := F23.binds (ps := ["value", "many"]) fun _ _ _ _ _ _ us hl => match us, hl with | [_, _], _ => rfl
  have F24 := fun_mk (st := sF__law_sub) l24 c24 k24
  have b24 := F24.binds (ps := ["one", "other"]) fun _ _ _ _ _ _ us hl => match us, hl with | [_, _], _ => rfl
  have F25 := fun_mk (st := sF__law_part) l25 c25 k25
  have b25 := F25.binds (ps := ["state"]) fun _ _ _ _ _ _ us hl => match us, hl with | [_], _ => rfl
  have F26 := fun_mk (st := sF_total) l26 c26 k26
  have b26 := F26.binds (ps := ["row"]) fun _ _ _ _ _ _ us hl => match us, hl with | [_], _ => rfl
  have F27 := fun_mk (st := sF_dot) l27 c27 k27
  have b27 := F27.binds (ps := ["row", "point"]) fun _ _ _ _ _ _ us hl => match us, hl with | [_, _], _ => rfl
  have F28 := fun_mk (st := sF_law) l28 c28 k28
  have b28 := F28.binds (ps := ["script"]) fun _ _ _ _ _ _ us hl => match us, hl with | [_], _ => rfl
  let T : Tx K mg := {
    a_divisor := x0
    d_divisor := _
    f_divisor := F0
    b_divisor := b0
    g_divisor := PySem.W.mg_of X G a0
    a_is_less := x1
    d_is_less := _
    f_is_less := F1
    b_is_less := b1
    g_is_less := PySem.W.mg_of X G a1
    a_whole_below := x2
    d_whole_below := _
    f_whole_below := F2
    b_whole_below := b2
    g_whole_below := PySem.W.mg_of X G a2
    a_whole_above := x3
    d_whole_above := _
    f_whole_above := F3
    b_whole_above := b3
    g_whole_above := PySem.W.mg_of X G a3
    a_is_whole_part := x4
    d_is_whole_part := _
    f_is_whole_part := F4
    b_is_whole_part := b4
    g_is_whole_part := PySem.W.mg_of X G a4
    a__law_state := x5
    d__law_state := _
    f__law_state := F5
    b__law_state := b5
    g__law_state := PySem.W.mg_of X G a5
    a__law_take := x6
    d__law_take := _
    f__law_take := F6
    b__law_take := b6
    g__law_take := PySem.W.mg_of X G a6
    a__law_fr := x7
    d__law_fr := _
    f__law_fr := F7
    b__law_fr := b7
    g__law_fr := PySem.W.mg_of X G a7
    a__law_sign := x8
    d__law_sign := _
    f__law_sign := F8
    b__law_sign := b8
    g__law_sign := PySem.W.mg_of X G a8
    a__law_gcd := x9
    d__law_gcd := _
    f__law_gcd := F9
    b__law_gcd := b9
    g__law_gcd := PySem.W.mg_of X G a9
    a_part := x10
    d_part := _
    f_part := F10
    b_part := b10
    g_part := PySem.W.mg_of X G a10
    a_is_part := x11
    d_is_part := _
    f_is_part := F11
    b_is_part := b11
    g_is_part := PySem.W.mg_of X G a11
    a_least_of := x12
    d_least_of := _
    f_least_of := F12
    b_least_of := b12
    g_least_of := PySem.W.mg_of X G a12
    a_scaled := x13
    d_scaled := _
    f_scaled := F13
    b_scaled := b13
    g_scaled := PySem.W.mg_of X G a13
    a__law_pick := x14
    d__law_pick := _
    f__law_pick := F14
    b__law_pick := b14
    g__law_pick := PySem.W.mg_of X G a14
    a__law_add := x15
    d__law_add := _
    f__law_add := F15
    b__law_add := b15
    g__law_add := PySem.W.mg_of X G a15
    a__law_mul := x16
    d__law_mul := _
    f__law_mul := F16
    b__law_mul := b16
    g__law_mul := PySem.W.mg_of X G a16
    a__law_gcd_of := x17
    d__law_gcd_of := _
    f__law_gcd_of := F17
    b__law_gcd_of := b17
    g__law_gcd_of := PySem.W.mg_of X G a17
    a__law_is := x18
    d__law_is := _
    f__law_is := F18
    b__law_is := b18
    g__law_is := PySem.W.mg_of X G a18
    a_plus := x19
    d_plus := _
    f_plus := F19
    b_plus := b19
    g_plus := PySem.W.mg_of X G a19
    a_minus := x20
    d_minus := _
    f_minus := F20
    b_minus := b20
    g_minus := PySem.W.mg_of X G a20
    a_times := x21
    d_times := _
    f_times := F21
    b_times := b21
    g_times := PySem.W.mg_of X G a21
    a_over := x22
    d_over := _
    f_over := F22
    b_over := b22
    g_over := PySem.W.mg_of X G a22
    a_are_parts := x23
    d_are_parts := _
    f_are_parts := F23
    b_are_parts := b23
    g_are_parts := PySem.W.mg_of X G a23
    a__law_sub := x24
    d__law_sub := _
    f__law_sub := F24
    b__law_sub := b24
    g__law_sub := PySem.W.mg_of X G a24
    a__law_part := x25
    d__law_part := _
    f__law_part := F25
    b__law_part := b25
    g__law_part := PySem.W.mg_of X G a25
    a_total := x26
    d_total := _
    f_total := F26
    b_total := b26
    g_total := PySem.W.mg_of X G a26
    a_dot := x27
    d_dot := _
    f_dot := F27
    b_dot := b27
    g_dot := PySem.W.mg_of X G a27
    a_law := fa
    d_law := _
    f_law := F28
    b_law := b28
    g_law := PySem.W.mg_of X G a28
    z_abs := PySem.W.mg_none_of X G z_abs
    z_all := PySem.W.mg_none_of X G z_all
    z_bool := PySem.W.mg_none_of X G z_bool
    z_int := PySem.W.mg_none_of X G z_int
    z_isinstance := PySem.W.mg_none_of X G z_isinstance
    z_len := PySem.W.mg_none_of X G z_len
    z_list := PySem.W.mg_none_of X G z_list
    z_max := PySem.W.mg_none_of X G z_max
    z_range := PySem.W.mg_none_of X G z_range
    z_tuple := PySem.W.mg_none_of X G z_tuple
  }
  exact ⟨_, fun s v => .of_eq rfl, fun base _ _ => ok_law T⟩
end K10
open PySem PySem.W PyProof.Rows in
set_option maxRecDepth 100000 in
set_option maxHeartbeats 0 in
theorem PySem.Challenge.cw_arrowhouse_k10_whole_parts_of_numbers_holds : PySem.Challenge.rw_arrowhouse_k10_whole_parts_of_numbers.Holds := by
  w_on; o_law; k_head; (case hw => w_witness2)
  k_fill
  refine L2.walk_of (l := PySem.Challenge.rw_arrowhouse_k10_whole_parts_of_numbers) (n := 63) (k := 6) (x := "script") (CX := fun _ => L2.CX0) (sp := fun w => K10.spLaw _) rfl (by decide) rfl ⟨rfl, by decide, by decide⟩ (fun w h Y => PySem.W.kIn_of Y) ?F (fun _ _ a ns hl _ hS => ⟨a, ns, rfl, hS, hl, fun _ => rfl⟩) (fun _ _ _ _ _ h => h)
  case F =>
    intro w mg fa h KX G hmg
    refine' K10.all_mk KX G hmg ?a0 ?l0 ?c0 ?k0 ?a1 ?l1 ?c1 ?k1 ?a2 ?l2 ?c2 ?k2 ?a3 ?l3 ?c3 ?k3 ?a4 ?l4 ?c4 ?k4 ?a5 ?l5 ?c5 ?k5 ?a6 ?l6 ?c6 ?k6 ?a7 ?l7 ?c7 ?k7 ?a8 ?l8 ?c8 ?k8 ?a9 ?l9 ?c9 ?k9 ?a10 ?l10 ?c10 ?k10 ?a11 ?l11 ?c11 ?k11 ?a12 ?l12 ?c12 ?k12 ?a13 ?l13 ?c13 ?k13 ?a14 ?l14 ?c14 ?k14 ?a15 ?l15 ?c15 ?k15 ?a16 ?l16 ?c16 ?k16 ?a17 ?l17 ?c17 ?k17 ?a18 ?l18 ?c18 ?k18 ?a19 ?l19 ?c19 ?k19 ?a20 ?l20 ?c20 ?k20 ?a21 ?l21 ?c21 ?k21 ?a22 ?l22 ?c22 ?k22 ?a23 ?l23 ?c23 ?k23 ?a24 ?l24 ?c24 ?k24 ?a25 ?l25 ?c25 ?k25 ?a26 ?l26 ?c26 ?k26 ?a27 ?l27 ?c27 ?k27 ?a28 ?l28 ?c28 ?k28 ?z_abs ?z_all ?z_bool ?z_int ?z_isinstance ?z_len ?z_list ?z_max ?z_range ?z_tuple
    (case a0 => k_is)
    (case l0 => k_is)
    (case c0 => k_is)
    (case k0 => k_is)
    (case a1 => k_is)
    (case l1 => k_is)
    (case c1 => k_is)
    (case k1 => k_is)
    (case a2 => k_is)
    (case l2 => k_is)
    (case c2 => k_is)
    (case k2 => k_is)
    (case a3 => k_is)
    (case l3 => k_is)
    (case c3 => k_is)
    (case k3 => k_is)
    (case a4 => k_is)
    (case l4 => k_is)
    (case c4 => k_is)
    (case k4 => k_is)
    (case a5 => k_is)
    (case l5 => k_is)
    (case c5 => k_is)
    (case k5 => k_is)
    (case a6 => k_is)
    (case l6 => k_is)
    (case c6 => k_is)
    (case k6 => k_is)
    (case a7 => k_is)
    (case l7 => k_is)
    (case c7 => k_is)
    (case k7 => k_is)
    (case a8 => k_is)
    (case l8 => k_is)
    (case c8 => k_is)
    (case k8 => k_is)
    (case a9 => k_is)
    (case l9 => k_is)
    (case c9 => k_is)
    (case k9 => k_is)
    (case a10 => k_is)
    (case l10 => k_is)
    (case c10 => k_is)
    (case k10 => k_is)
    (case a11 => k_is)
    (case l11 => k_is)
    (case c11 => k_is)
    (case k11 => k_is)
    (case a12 => k_is)
    (case l12 => k_is)
    (case c12 => k_is)
    (case k12 => k_is)
    (case a13 => k_is)
    (case l13 => k_is)
    (case c13 => k_is)
    (case k13 => k_is)
    (case a14 => k_is)
    (case l14 => k_is)
    (case c14 => k_is)
    (case k14 => k_is)
    (case a15 => k_is)
    (case l15 => k_is)
    (case c15 => k_is)
    (case k15 => k_is)
    (case a16 => k_is)
    (case l16 => k_is)
    (case c16 => k_is)
    (case k16 => k_is)
    (case a17 => k_is)
    (case l17 => k_is)
    (case c17 => k_is)
    (case k17 => k_is)
    (case a18 => k_is)
    (case l18 => k_is)
    (case c18 => k_is)
    (case k18 => k_is)
    (case a19 => k_is)
    (case l19 => k_is)
    (case c19 => k_is)
    (case k19 => k_is)
    (case a20 => k_is)
    (case l20 => k_is)
    (case c20 => k_is)
    (case k20 => k_is)
    (case a21 => k_is)
    (case l21 => k_is)
    (case c21 => k_is)
    (case k21 => k_is)
    (case a22 => k_is)
    (case l22 => k_is)
    (case c22 => k_is)
    (case k22 => k_is)
    (case a23 => k_is)
    (case l23 => k_is)
    (case c23 => k_is)
    (case k23 => k_is)
    (case a24 => k_is)
    (case l24 => k_is)
    (case c24 => k_is)
    (case k24 => k_is)
    (case a25 => k_is)
    (case l25 => k_is)
    (case c25 => k_is)
    (case k25 => k_is)
    (case a26 => k_is)
    (case l26 => k_is)
    (case c26 => k_is)
    (case k26 => k_is)
    (case a27 => k_is)
    (case l27 => k_is)
    (case c27 => k_is)
    (case k27 => k_is)
    (case a28 => k_is)
    (case l28 => k_is)
    (case c28 => k_is)
    (case k28 => k_is)
    (case z_abs => k_is)
    (case z_all => k_is)
    (case z_bool => k_is)
    (case z_int => k_is)
    (case z_isinstance => k_is)
    (case z_len => k_is)
    (case z_list => k_is)
    (case z_max => k_is)
    (case z_range => k_is)
    (case z_tuple => k_is)
#print axioms PySem.Challenge.cw_arrowhouse_k10_whole_parts_of_numbers_holds

