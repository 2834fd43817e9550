import PyProof.Rows.All
import HandS.ForMost
import HandS.IsInst
import HandS.Strs
import HandS.Zip
import HandS.EndTab
import HandS.GenList
import HandS.AnyAll
import HandS.Flow
import HandS.Conv
import HandS.SortInts
import HandS.TupAny
import HandS.Deep
import HandS.TupLe
import HandS.Style
import KE.SortData
import KE.DataMinMax
import HandS.HeadHook4
import HandS.HeadWalk
import PyProof.AssignAttr
import HandS.SetFor
import HandS.HeadEnd
import HandS.Head2
import PySem.Challenge.RW_keystotext_k51_whole_fooled
set_option Elab.async false
set_option linter.all false
set_option maxRecDepth 100000
set_option maxHeartbeats 0
set_option autoImplicit false
/-! Values as trees over the hand layer: data D, a store of what changes, worlds, what represents what. -/
namespace DL
open PySem PySem.Spec PyProof.Rows L2

/-- a value as a tree: tuples and lists that nobody changes any more are trees; ref: a cell of the store -/
inductive D where
  | non | bl (b : Bool) | int (i : Int) | str (s : Str) | tup (xs : List D) | lst (xs : List D) | ref (n : Nat) | scr (ns : List Int)

/-- a cell of the store -/
inductive Cell where
  | dead
  | lst (xs : List D)
  | ins (C : Addr) (fs : List (Str × D))
abbrev Store := List Cell
abbrev Slots := List (Option D)

/-- a world: where the store's cells stand; what stands still -/
structure Wd where
  mu : List Addr
  phi : Hp
  pin : Hp
/-- more cells, more that stands still -/
structure Wd.ge (W W' : Wd) : Prop where
  mu : ∃ l, W'.mu = W.mu ++ l
  phi : ∀ a o, W.phi a = some o → W'.phi a = some o
/-- .. and the same pins: what others hold, that we do not touch -/
structure Wd.le (W W' : Wd) : Prop extends Wd.ge W W' where
  pin : W'.pin = W.pin
theorem Wd.ge.refl (W : Wd) : W.ge W := ⟨⟨[], (List.append_nil _).symm⟩, fun _ _ h => h⟩
theorem Wd.ge.trans {a b c : Wd} (h : a.ge b) (g : b.ge c) : a.ge c := by
  obtain ⟨⟨l, e⟩, p⟩ := h
  obtain ⟨⟨m, e'⟩, q⟩ := g
  exact ⟨⟨l ++ m, by rw [e', e, List.append_assoc]⟩, fun x o z => q x o (p x o z)⟩
theorem Wd.le.refl (W : Wd) : W.le W := ⟨Wd.ge.refl W, rfl⟩
theorem Wd.le.trans {a b c : Wd} (h : a.le b) (g : b.le c) : a.le c := ⟨h.toge.trans g.toge, g.pin.trans h.pin⟩
theorem Wd.ge.at {W W' : Wd} (h : W.ge W') {n : Nat} {a : Addr} (e : W.mu[n]? = some a) : W'.mu[n]? = some a := by
  obtain ⟨⟨l, e'⟩, _⟩ := h
  rw [e', List.getElem?_append_left (List.getElem?_eq_some_iff.mp e).1, e]

/-- a tuple, a list that stands still -/
def TupAt (K : PySem.W.Frag) (W : Wd) (a : Addr) (xs : List V) : Prop :=
  W.phi a = some (.tup xs) ∨ ∃ (o : Obj) (its : Array Value) (n : Nat), K.lookup a = some o ∧ o.cls = .type "tuple" ∧ o.data = .seq its n ∧ its.size ≤ sizeLine ∧ Vals xs its.toList
def LstAt (W : Wd) (a : Addr) (xs : List V) : Prop := W.phi a = some (.lst xs)
/-- the script -/
def ScrAt (K : PySem.W.Frag) (W : Wd) (a : Addr) (xs : List V) : Prop :=
  (∃ o, W.phi a = some (.frz o (.lst xs))) ∨
    ∃ (o : Obj) (its : Array Value) (n : Nat), K.lookup a = some o ∧ o.cls = .type "list" ∧ o.dict = none ∧ o.data = .seq its n ∧ its.size ≤ sizeLine ∧ Vals xs its.toList
theorem TupAt.mong {K : PySem.W.Frag} {W W' : Wd} {a : Addr} {xs : List V} (h : TupAt K W a xs) (l : W.ge W') : TupAt K W' a xs := h.imp (l.phi _ _) id
theorem LstAt.mong {W W' : Wd} {a : Addr} {xs : List V} (h : LstAt W a xs) (l : W.ge W') : LstAt W' a xs := l.phi _ _ h
theorem ScrAt.mong {K : PySem.W.Frag} {W W' : Wd} {a : Addr} {xs : List V} (h : ScrAt K W a xs) (l : W.ge W') : ScrAt K W' a xs := h.imp (fun ⟨o, e⟩ => ⟨o, l.phi _ _ e⟩) id

mutual
def Rep (K : PySem.W.Frag) (W : Wd) : D → V → Prop
  | .non, v => v = .non
  | .bl b, v => v = .bl b
  | .int i, v => v = .int i
  | .str s, v => v = .str s
  | .tup ds, v => ∃ a vs, v = .ref a ∧ TupAt K W a vs ∧ Reps K W ds vs
  | .lst ds, v => ∃ a vs, v = .ref a ∧ LstAt W a vs ∧ Reps K W ds vs
  | .ref n, v => ∃ a, W.mu[n]? = some a ∧ v = .ref a
  | .scr ns, v => ∃ a, v = .ref a ∧ ScrAt K W a (ns.map V.int)
def Reps (K : PySem.W.Frag) (W : Wd) : List D → List V → Prop
  | [], vs => vs = []
  | d :: ds, vs => ∃ v r, vs = v :: r ∧ Rep K W d v ∧ Reps K W ds r
end
mutual
theorem Rep.mong {K : PySem.W.Frag} {W W' : Wd} (l : W.ge W') : ∀ {d : D} {v : V}, Rep K W d v → Rep K W' d v
  | .non, _, h => by unfold Rep at h ⊢; exact h
  | .bl _, _, h => by unfold Rep at h ⊢; exact h
  | .int _, _, h => by unfold Rep at h ⊢; exact h
  | .str _, _, h => by unfold Rep at h ⊢; exact h
  | .tup ds, _, h => by
    unfold Rep at h ⊢
    obtain ⟨a, vs, e, t, r⟩ := h
    exact ⟨a, vs, e, t.mong l, Reps.mong l r⟩
  | .lst ds, _, h => by
    unfold Rep at h ⊢
    obtain ⟨a, vs, e, t, r⟩ := h
    exact ⟨a, vs, e, t.mong l, Reps.mong l r⟩
  | .ref n, _, h => by
    unfold Rep at h ⊢
    obtain ⟨a, e, z⟩ := h
    exact ⟨a, l.at e, z⟩
  | .scr ns, _, h => by
    unfold Rep at h ⊢
    obtain ⟨a, e, z⟩ := h
    exact ⟨a, e, z.mong l⟩
theorem Reps.mong {K : PySem.W.Frag} {W W' : Wd} (l : W.ge W') : ∀ {ds : List D} {vs : List V}, Reps K W ds vs → Reps K W' ds vs
  | [], _, h => by unfold Reps at h ⊢; exact h
  | d :: ds, _, h => by
    unfold Reps at h ⊢
    obtain ⟨v, r, e, h1, h2⟩ := h
    exact ⟨v, r, e, Rep.mong l h1, Reps.mong l h2⟩
end
section
variable {K : PySem.W.Frag} {W W' : Wd} {v : V} {vs ws : List V} {d : D} {ds es : List D}
theorem Rep.non (h : Rep K W .non v) : v = .non := by unfold Rep at h; exact h
theorem Rep.bl {b : Bool} (h : Rep K W (.bl b) v) : v = .bl b := by unfold Rep at h; exact h
theorem Rep.int {i : Int} (h : Rep K W (.int i) v) : v = .int i := by unfold Rep at h; exact h
theorem Rep.str {s : Str} (h : Rep K W (.str s) v) : v = .str s := by unfold Rep at h; exact h
theorem Rep.tup (h : Rep K W (.tup ds) v) : ∃ a vs, v = .ref a ∧ TupAt K W a vs ∧ Reps K W ds vs := by unfold Rep at h; exact h
theorem Rep.lst (h : Rep K W (.lst ds) v) : ∃ a vs, v = .ref a ∧ LstAt W a vs ∧ Reps K W ds vs := by unfold Rep at h; exact h
theorem Rep.ref {n : Nat} (h : Rep K W (.ref n) v) : ∃ a, W.mu[n]? = some a ∧ v = .ref a := by unfold Rep at h; exact h
theorem Rep.scr {ns : List Int} (h : Rep K W (.scr ns) v) : ∃ a, v = .ref a ∧ ScrAt K W a (ns.map V.int) := by unfold Rep at h; exact h
theorem rep_scr {a : Addr} {ns : List Int} (h : ScrAt K W a (ns.map V.int)) : Rep K W (.scr ns) (.ref a) := by unfold Rep; exact ⟨a, rfl, h⟩
theorem rep_non : Rep K W .non .non := by unfold Rep; rfl
theorem rep_bl {b : Bool} : Rep K W (.bl b) (.bl b) := by unfold Rep; rfl
theorem rep_int {i : Int} : Rep K W (.int i) (.int i) := by unfold Rep; rfl
theorem rep_str {s : Str} : Rep K W (.str s) (.str s) := by unfold Rep; rfl
theorem rep_tup {a : Addr} (h : TupAt K W a vs) (r : Reps K W ds vs) : Rep K W (.tup ds) (.ref a) := by unfold Rep; exact ⟨a, vs, rfl, h, r⟩
theorem rep_lst {a : Addr} (h : LstAt W a vs) (r : Reps K W ds vs) : Rep K W (.lst ds) (.ref a) := by unfold Rep; exact ⟨a, vs, rfl, h, r⟩
theorem rep_ref {a : Addr} {n : Nat} (h : W.mu[n]? = some a) : Rep K W (.ref n) (.ref a) := by unfold Rep; exact ⟨a, h, rfl⟩
theorem reps_nil : Reps K W [] [] := by unfold Reps; rfl
theorem reps_cons (h : Rep K W d v) (r : Reps K W ds vs) : Reps K W (d :: ds) (v :: vs) := by unfold Reps; exact ⟨v, vs, rfl, h, r⟩
theorem Reps.nil (h : Reps K W [] vs) : vs = [] := by unfold Reps at h; exact h
theorem Reps.cons (h : Reps K W (d :: ds) vs) : ∃ v r, vs = v :: r ∧ Rep K W d v ∧ Reps K W ds r := by unfold Reps at h; exact h
theorem Reps.length : ∀ {ds : List D} {vs : List V}, Reps K W ds vs → vs.length = ds.length
  | [], _, h => by rw [h.nil]; rfl
  | d :: ds, _, h => by
    obtain ⟨v, r, rfl, _, q⟩ := h.cons
    rw [List.length_cons, List.length_cons, Reps.length q]
theorem Reps.get : ∀ {ds : List D} {vs : List V} {i : Nat} {d : D}, Reps K W ds vs → ds[i]? = some d → ∃ v, vs[i]? = some v ∧ Rep K W d v
  | [], _, _, _, _, e => by simp at e
  | d :: ds, _, 0, _, h, e => by
    obtain ⟨v, r, rfl, q, _⟩ := h.cons
    have e' := Option.some.inj e
    subst e'
    exact ⟨v, rfl, q⟩
  | d :: ds, _, i + 1, _, h, e => by
    obtain ⟨v, r, rfl, _, q⟩ := h.cons
    obtain ⟨v', e', r'⟩ := Reps.get (i := i) q (by simpa using e)
    exact ⟨v', by simpa using e', r'⟩
theorem Reps.get' {ds : List D} {vs : List V} {i : Nat} {v : V} (h : Reps K W ds vs) (e : vs[i]? = some v) : ∃ d, ds[i]? = some d ∧ Rep K W d v := by
  have hl := h.length
  have hi : i < ds.length := by rw [← hl]; exact (List.getElem?_eq_some_iff.mp e).1
  obtain ⟨v', e', r⟩ := h.get (List.getElem?_eq_getElem hi)
  rw [e] at e'
  cases e'
  exact ⟨_, List.getElem?_eq_getElem hi, r⟩
theorem Reps.append : ∀ {ds es : List D} {vs ws : List V}, Reps K W ds vs → Reps K W es ws → Reps K W (ds ++ es) (vs ++ ws)
  | [], _, _, _, h, g => by rw [h.nil]; exact g
  | d :: ds, _, _, _, h, g => by
    obtain ⟨v, r, rfl, q, q2⟩ := h.cons
    exact reps_cons q (Reps.append q2 g)
theorem Reps.take : ∀ {ds : List D} {vs : List V} (n : Nat), Reps K W ds vs → Reps K W (ds.take n) (vs.take n)
  | _, _, 0, _ => by rw [List.take_zero, List.take_zero]; exact reps_nil
  | [], _, n + 1, h => by rw [h.nil]; exact reps_nil
  | d :: ds, _, n + 1, h => by
    obtain ⟨v, r, rfl, q, q2⟩ := h.cons
    rw [List.take_succ_cons, List.take_succ_cons]
    exact reps_cons q (Reps.take n q2)
theorem Reps.drop : ∀ {ds : List D} {vs : List V} (n : Nat), Reps K W ds vs → Reps K W (ds.drop n) (vs.drop n)
  | _, _, 0, h => by rw [List.drop_zero, List.drop_zero]; exact h
  | [], _, n + 1, h => by rw [h.nil]; exact reps_nil
  | d :: ds, _, n + 1, h => by
    obtain ⟨v, r, rfl, q, q2⟩ := h.cons
    rw [List.drop_succ_cons, List.drop_succ_cons]
    exact Reps.drop n q2
theorem Reps.set : ∀ {ds : List D} {vs : List V} {d : D} {v : V} (n : Nat), Reps K W ds vs → Rep K W d v → Reps K W (ds.set n d) (vs.set n v)
  | [], _, _, _, n, h, _ => by rw [h.nil]; exact reps_nil
  | d :: ds, _, _, _, 0, h, g => by
    obtain ⟨v, r, rfl, q, q2⟩ := h.cons
    exact reps_cons g q2
  | d :: ds, _, _, _, n + 1, h, g => by
    obtain ⟨v, r, rfl, q, q2⟩ := h.cons
    exact reps_cons q (Reps.set n q2 g)
theorem Reps.reverse : ∀ {ds : List D} {vs : List V}, Reps K W ds vs → Reps K W ds.reverse vs.reverse
  | [], _, h => by rw [h.nil]; exact reps_nil
  | d :: ds, _, h => by
    obtain ⟨v, r, rfl, q, q2⟩ := h.cons
    rw [List.reverse_cons, List.reverse_cons]
    exact (Reps.reverse q2).append (reps_cons q reps_nil)
theorem Reps.eraseIdx : ∀ {ds : List D} {vs : List V} (i : Nat), Reps K W ds vs → Reps K W (ds.eraseIdx i) (vs.eraseIdx i)
  | [], _, i, h => by rw [h.nil]; exact reps_nil
  | d :: ds, _, 0, h => by
    obtain ⟨v, r, rfl, q, q2⟩ := h.cons
    exact q2
  | d :: ds, _, i + 1, h => by
    obtain ⟨v, r, rfl, q, q2⟩ := h.cons
    exact reps_cons q (Reps.eraseIdx i q2)
theorem Reps.dropLast {ds : List D} {vs : List V} (h : Reps K W ds vs) : Reps K W ds.dropLast vs.dropLast := by
  rw [List.dropLast_eq_take, List.dropLast_eq_take, h.length]
  exact h.take _
theorem Reps.ints : ∀ {ns : List Int} {vs : List V}, Reps K W (ns.map D.int) vs → vs = ns.map V.int
  | [], _, h => h.nil
  | n :: ns, _, h => by
    obtain ⟨v, r, rfl, q, q2⟩ := h.cons
    rw [q.int, Reps.ints q2]
    rfl
theorem reps_ints : ∀ (ns : List Int), Reps K W (ns.map D.int) (ns.map V.int)
  | [] => reps_nil
  | n :: ns => reps_cons rep_int (reps_ints ns)
end

/-! ### what the store says of the heap -/
/-- an instance's attributes -/
def RepF (K : PySem.W.Frag) (W : Wd) : List (Str × D) → List (Str × V) → Prop
  | [], vs => vs = []
  | p :: ds, vs => ∃ v r, vs = (p.1, v) :: r ∧ Rep K W p.2 v ∧ RepF K W ds r
theorem RepF.mong {K : PySem.W.Frag} {W W' : Wd} (l : W.ge W') : ∀ {ds : List (Str × D)} {vs : List (Str × V)}, RepF K W ds vs → RepF K W' ds vs
  | [], _, h => h
  | _ :: _, _, ⟨v, r, e, h1, h2⟩ => ⟨v, r, e, h1.mong l, RepF.mong l h2⟩
def CellOk (K : PySem.W.Frag) (W : Wd) : Cell → Option HO → Prop
  | .dead, _ => True
  | .lst ds, o => ∃ vs, o = some (.lst vs) ∧ Reps K W ds vs
  | .ins C fs, o => ∃ dx vs, o = some (.ins C dx vs) ∧ RepF K W fs vs
theorem CellOk.mong {K : PySem.W.Frag} {W W' : Wd} (l : W.ge W') {c : Cell} {o : Option HO} (h : CellOk K W c o) : CellOk K W' c o := by
  cases c with
  | dead => trivial
  | lst ds => obtain ⟨vs, e, r⟩ := h; exact ⟨vs, e, r.mong l⟩
  | ins C fs => obtain ⟨dx, vs, e, r⟩ := h; exact ⟨dx, vs, e, r.mong l⟩
def Cell.live : Cell → Bool
  | .dead => false
  | _ => true
theorem CellOk.some {K : PySem.W.Frag} {W : Wd} {c : Cell} {o : Option HO} (h : CellOk K W c o) (l : c.live = true) : ∃ u, o = some u ∧ ((∃ vs, u = .lst vs) ∨ ∃ C dx vs, u = .ins C dx vs) := by
  cases c with
  | dead => cases l
  | lst ds => obtain ⟨vs, e, r⟩ := h; exact ⟨_, e, .inl ⟨vs, rfl⟩⟩
  | ins C fs => obtain ⟨dx, vs, e, r⟩ := h; exact ⟨_, e, .inr ⟨C, dx, vs, rfl⟩⟩

structure Sim (K : PySem.W.Frag) (T : List Addr) (W : Wd) (S : Store) (H : Hp) : Prop where
  len : W.mu.length = S.length
  imm : ∀ a o, W.phi a = some o → H a = some o
  cell : ∀ (n : Nat) (c : Cell) (a : Addr), S[n]? = some c → W.mu[n]? = some a → CellOk K W c (H a)
  inj : ∀ (n m : Nat) (c c' : Cell) (a : Addr), S[n]? = some c → S[m]? = some c' → c.live = true → c'.live = true → W.mu[n]? = some a → W.mu[m]? = some a → n = m
  mt : ∀ (n : Nat) (c : Cell) (a : Addr), S[n]? = some c → c.live = true → W.mu[n]? = some a → W.phi a = none
  tab : ∀ P ∈ T, GxR.TabG H P
  knd : ∀ a q, W.phi a ≠ some (.tbl q)
  pn : ∀ a o, W.pin a = some o → H a = some o ∧ W.phi a = none ∧ ∀ q, o ≠ .tbl q
  pc : ∀ (n : Nat) (c : Cell) (a : Addr), S[n]? = some c → c.live = true → W.mu[n]? = some a → W.pin a = none
/-- a slot's list of values -/
def RSl (K : PySem.W.Frag) (W : Wd) (sl : Slots) (σ : L2.St) : Prop := sl.length = σ.length ∧ ∀ (i : Nat) (d : D), sl[i]? = some (some d) → ∃ v, σ[i]? = some (some v) ∧ Rep K W d v
section
variable {K : PySem.W.Frag} {T : List Addr} {W W' : Wd} {S : Store} {H : Hp} {sl : Slots} {σ : L2.St} {v : V} {d : D}
theorem RSl.mong (h : RSl K W sl σ) (l : W.ge W') : RSl K W' sl σ := ⟨h.1, fun i d e => let ⟨v, e', r⟩ := h.2 i d e; ⟨v, e', r.mong l⟩⟩
theorem RSl.set (h : RSl K W sl σ) (i : Nat) (r : Rep K W d v) : RSl K W (sl.set i (some d)) (σ.set i (some v)) := by
  refine ⟨by rw [List.length_set, List.length_set]; exact h.1, fun j e q => ?_⟩
  by_cases hj : i = j
  · subst hj
    have hi : i < sl.length := by
      have := (List.getElem?_eq_some_iff.mp q).1
      rwa [List.length_set] at this
    rw [List.getElem?_set_self hi] at q
    cases q
    exact ⟨v, List.getElem?_set_self (by rw [← h.1]; exact hi), r⟩
  · rw [List.getElem?_set_ne hj] at q
    obtain ⟨w, e', r'⟩ := h.2 j e q
    exact ⟨w, by rw [List.getElem?_set_ne hj]; exact e', r'⟩

theorem RSl.mono (h : RSl K W sl σ) (l : W.le W') : RSl K W' sl σ := h.mong l.toge
theorem Rep.mono (h : Rep K W d v) (l : W.le W') : Rep K W' d v := Rep.mong l.toge h
theorem Reps.mono {ds : List D} {vs : List V} (h : Reps K W ds vs) (l : W.le W') : Reps K W' ds vs := Reps.mong l.toge h

theorem TupAt.seq {a : Addr} {xs : List V} (h : TupAt K W a xs) (s : Sim K T W S H) : SqT K H a xs := by
  rcases h with h | h
  · exact .inl (.inl (s.imm _ _ h))
  · exact .inr h
theorem LstAt.at {a : Addr} {xs : List V} (h : LstAt W a xs) (s : Sim K T W S H) : H a = some (.lst xs) := s.imm _ _ h
theorem ScrAt.seq {a : Addr} {xs : List V} (h : ScrAt K W a xs) (s : Sim K T W S H) : SqL K H a xs := by
  rcases h with ⟨o, h⟩ | h
  · exact .inl (.inr ⟨o, s.imm _ _ h⟩)
  · exact .inr h
/-- the world with one thing more that stands still -/
def Wd.add (W : Wd) (a : Addr) (o : HO) : Wd := ⟨W.mu, upd W.phi a o, W.pin⟩
theorem Wd.add_le {a : Addr} {o : HO} (h : W.phi a = none) : W.le (W.add a o) := ⟨⟨⟨[], (List.append_nil _).symm⟩, fun b u e => (upd_ne (ne_of_none e h)).trans e⟩, rfl⟩
theorem Wd.add_at {a : Addr} {o : HO} : (W.add a o).phi a = some o := upd_same
theorem Sim.nopin (s : Sim K T W S H) {a : Addr} (h : H a = none) : W.pin a = none := by
  cases e : W.pin a with
  | none => rfl
  | some o => rw [(s.pn a o e).1] at h; cases h
theorem Sim.none (s : Sim K T W S H) {a : Addr} (h : H a = none) : W.phi a = none := by
  cases e : W.phi a with
  | none => rfl
  | some o => rw [s.imm a o e] at h; cases h
/-- a cell's place -/
theorem Sim.place (s : Sim K T W S H) {n : Nat} {c : Cell} (e : S[n]? = some c) : ∃ a, W.mu[n]? = some a ∧ CellOk K W c (H a) := by
  have hn : n < W.mu.length := by rw [s.len]; exact (List.getElem?_eq_some_iff.mp e).1
  exact ⟨_, List.getElem?_eq_getElem hn, s.cell n c _ e (List.getElem?_eq_getElem hn)⟩
theorem Sim.ne (s : Sim K T W S H) {n : Nat} {c : Cell} {a p : Addr} (e : S[n]? = some c) (l : c.live = true) (m : W.mu[n]? = some a) (h : H p = Option.none) : a ≠ p := by
  obtain ⟨u, z, _⟩ := (s.cell n c a e m).some l
  exact ne_of_none z h
theorem tab_upd {P a : Addr} {o : HO} (h : GxR.TabG H P) (n : ∀ q, H a ≠ some (.tbl q)) : GxR.TabG (upd H a o) P := by
  obtain ⟨ps, e, q⟩ := h
  exact ⟨ps, by rw [upd_ne (fun z => n ps (by rw [← z]; exact e))]; exact e, q⟩
/-- a new thing that stands still -/
theorem Sim.new (s : Sim K T W S H) {p : Addr} {o : HO} (h : H p = Option.none) (no : ∀ q, o ≠ .tbl q) : Sim K T (W.add p o) S (upd H p o) := by
  have hl := Wd.add_le (W := W) (o := o) (s.none h)
  refine ⟨s.len, fun a u e => ?_, fun n c a e m => ?_, s.inj, fun n c a e l m => ?_, fun P hP => tab_upd (s.tab P hP) (fun q z => by rw [h] at z; cases z), fun a q z => ?_, fun a u z => ?_, s.pc⟩
  · by_cases ha : a = p
    · subst ha
      rw [show (W.add a o).phi a = some o from upd_same] at e
      cases e
      exact upd_same
    · rw [upd_ne ha]
      exact s.imm a u ((upd_ne ha).symm.trans e)
  · have q := (s.cell n c a e m).mong hl.toge
    cases hc : c.live with
    | false => cases c <;> first | trivial | cases hc
    | true => rw [upd_ne (s.ne e hc m h)]; exact q
  · rw [show (W.add p o).phi a = W.phi a from upd_ne (s.ne e l m h)]
    exact s.mt n c a e l m
  · by_cases ha : a = p
    · subst ha
      rw [show (W.add a o).phi a = some o from upd_same] at z
      exact no q (Option.some.inj z)
    · exact s.knd a q ((upd_ne ha).symm.trans z)
  · obtain ⟨z1, z2, z3⟩ := s.pn a u z
    have na : a ≠ p := ne_of_none z1 h
    exact ⟨(upd_ne na).trans z1, (upd_ne na).trans z2, z3⟩
/-- a new cell -/
def Wd.more (W : Wd) (a : Addr) : Wd := ⟨W.mu ++ [a], W.phi, W.pin⟩
theorem Wd.more_le {a : Addr} : W.le (W.more a) := ⟨⟨⟨[a], rfl⟩, fun _ _ e => e⟩, rfl⟩
theorem Sim.more (s : Sim K T W S H) {p : Addr} {o : HO} {c : Cell} (h : H p = Option.none) (hc : CellOk K W c (some o)) (hl : c.live = true) : Sim K T (W.more p) (S ++ [c]) (upd H p o) := by
  have old : ∀ {n c' a}, (S ++ [c])[n]? = some c' → (W.more p).mu[n]? = some a → (S[n]? = some c' ∧ W.mu[n]? = some a) ∨ (n = S.length ∧ c' = c ∧ a = p) := fun {n c' a} e m => by
    have m : (W.mu ++ [p])[n]? = some a := m
    by_cases hn : n < S.length
    · rw [List.getElem?_append_left hn] at e
      rw [List.getElem?_append_left (by rw [s.len]; exact hn)] at m
      exact .inl ⟨e, m⟩
    · have hn' : n = S.length := by
        have := (List.getElem?_eq_some_iff.mp e).1
        rw [List.length_append] at this
        simp at this
        omega
      subst hn'
      rw [List.getElem?_append_right (Nat.le_refl _)] at e
      rw [← s.len, List.getElem?_append_right (Nat.le_refl _)] at m
      simp at e m
      exact .inr ⟨rfl, e.symm, m.symm⟩
  refine ⟨by show (W.mu ++ [p]).length = _; rw [List.length_append, List.length_append, s.len]; rfl, fun a u e => ?_, fun n c' a e m => ?_, fun n m c1 c2 a e1 e2 l1 l2 m1 m2 => ?_, fun n c' a e l m => ?_, fun P hP => tab_upd (s.tab P hP) (fun q z => by rw [h] at z; cases z), s.knd, fun a u z => ?_, fun n c' a e l m => ?_⟩
  · have e : W.phi a = some u := e
    have q := s.imm a u e
    rw [upd_ne (ne_of_none q h)]
    exact q
  · rcases old e m with ⟨e, m⟩ | ⟨_, rfl, rfl⟩
    · have q := (s.cell n c' a e m).mong (Wd.more_le (a := p)).toge
      cases hc' : c'.live with
      | false => cases c' <;> first | trivial | cases hc'
      | true => rw [upd_ne (s.ne e hc' m h)]; exact q
    · rw [upd_same]
      exact hc.mong Wd.more_le.toge
  · rcases old e1 m1 with ⟨f1, g1⟩ | ⟨z1, y1, x1⟩
    · rcases old e2 m2 with ⟨f2, g2⟩ | ⟨z2, y2, x2⟩
      · exact s.inj n m c1 c2 a f1 f2 l1 l2 g1 g2
      · exact absurd x2 (s.ne f1 l1 g1 h)
    · rcases old e2 m2 with ⟨f2, g2⟩ | ⟨z2, y2, x2⟩
      · exact absurd x1 (s.ne f2 l2 g2 h)
      · rw [z1, z2]
  · rcases old e m with ⟨e, m⟩ | ⟨_, rfl, rfl⟩
    · exact s.mt n c' a e l m
    · exact s.none h
  · obtain ⟨z1, z2, z3⟩ := s.pn a u z
    exact ⟨(upd_ne (ne_of_none z1 h)).trans z1, z2, z3⟩
  · rcases old e m with ⟨e, m⟩ | ⟨_, rfl, rfl⟩
    · exact s.pc n c' a e l m
    · exact s.nopin h
theorem Sim.more_at (s : Sim K T W S H) {p : Addr} : (W.more p).mu[S.length]? = some p := by
  show (W.mu ++ [p])[S.length]? = some p
  rw [← s.len, List.getElem?_append_right (Nat.le_refl _)]
  simp
/-- a cell is written -/
theorem Sim.put (s : Sim K T W S H) {n : Nat} {c c' : Cell} {a : Addr} {o : HO} (e : S[n]? = some c) (l : c.live = true) (m : W.mu[n]? = some a) (h : CellOk K W c' (some o)) (l' : c'.live = true) : Sim K T W (S.set n c') (upd H a o) := by
  have hn := (List.getElem?_eq_some_iff.mp e).1
  have at_ : ∀ {k d}, (S.set n c')[k]? = some d → (k = n ∧ d = c') ∨ (k ≠ n ∧ S[k]? = some d) := fun {k d} q => by
    by_cases hk : n = k
    · subst hk
      rw [List.getElem?_set_self hn] at q
      exact .inl ⟨rfl, (Option.some.inj q).symm⟩
    · rw [List.getElem?_set_ne hk] at q
      exact .inr ⟨fun z => hk z.symm, q⟩
  obtain ⟨u, hu, hk⟩ := (s.cell n c a e m).some l
  refine ⟨by rw [List.length_set]; exact s.len, fun b x q => ?_, fun k d b q m' => ?_, fun k j d d' b q q' ld ld' mk mj => ?_, fun k d b q ld m' => ?_, fun P hP => tab_upd (s.tab P hP) (fun q z => ?_), s.knd, fun b u z => ?_, fun k d b q ld m' => ?_⟩
  · have z := s.mt n c a e l m
    rw [upd_ne (ne_of_none q z)]
    exact s.imm b x q
  · rcases at_ q with ⟨rfl, rfl⟩ | ⟨hk, q⟩
    · rw [m] at m'
      cases m'
      rw [upd_same]
      exact h
    · have w := s.cell k d b q m'
      cases ld : d.live with
      | false => cases d <;> first | trivial | cases ld
      | true =>
        rw [upd_ne (fun z => hk (s.inj k n d c b q e ld l m' (by rw [z]; exact m)))]
        exact w
  · rcases at_ q with ⟨z1, y1⟩ | ⟨hk, f⟩
    · rcases at_ q' with ⟨z2, y2⟩ | ⟨hj, f'⟩
      · rw [z1, z2]
      · rw [z1] at mk ⊢
        exact s.inj n j c d' b e f' l ld' mk mj
    · rcases at_ q' with ⟨z2, y2⟩ | ⟨hj, f'⟩
      · rw [z2] at mj ⊢
        exact s.inj k n d c b f e ld l mk mj
      · exact s.inj k j d d' b f f' ld ld' mk mj
  · rcases at_ q with ⟨rfl, rfl⟩ | ⟨hk, q⟩
    · exact s.mt k c b e l m'
    · exact s.mt k d b q ld m'
  · rw [hu] at z
    cases z
    rcases hk with ⟨vs, e⟩ | ⟨C, dx, vs, e⟩ <;> cases e
  · obtain ⟨z1, z2, z3⟩ := s.pn b u z
    have nb : b ≠ a := ne_of_none z (s.pc n c a e l m)
    exact ⟨(upd_ne nb).trans z1, z2, z3⟩
  · rcases at_ q with ⟨rfl, rfl⟩ | ⟨hk, q⟩
    · exact s.pc k c b e l m'
    · exact s.pc k d b q ld m'
/-- a list that nobody changes any more -/
theorem Sim.freeze (s : Sim K T W S H) {n : Nat} {ds : List D} {a : Addr} {vs : List V} (e : S[n]? = some (.lst ds)) (m : W.mu[n]? = some a) (h : H a = some (.lst vs)) : Sim K T (W.add a (.lst vs)) (S.set n .dead) H ∧ W.le (W.add a (.lst vs)) := by
  have hn := (List.getElem?_eq_some_iff.mp e).1
  have hm := s.mt n _ a e rfl m
  have hl : W.le (W.add a (.lst vs)) := Wd.add_le hm
  have at_ : ∀ {k d}, (S.set n .dead)[k]? = some d → d = .dead ∨ (k ≠ n ∧ S[k]? = some d) := fun {k d} q => by
    by_cases hk : n = k
    · subst hk
      rw [List.getElem?_set_self hn] at q
      exact .inl (Option.some.inj q).symm
    · rw [List.getElem?_set_ne hk] at q
      exact .inr ⟨fun z => hk z.symm, q⟩
  refine ⟨⟨by rw [List.length_set]; exact s.len, fun b x q => ?_, fun k d b q m' => ?_, fun k j d d' b q q' ld ld' mk mj => ?_, fun k d b q ld m' => ?_, s.tab, fun b q z => ?_, fun b u z => ?_, fun k d b q ld m' => ?_⟩, hl⟩
  · by_cases hb : b = a
    · subst hb
      rw [show (W.add b (.lst vs)).phi b = some (.lst vs) from upd_same] at q
      cases q
      exact h
    · exact s.imm b x ((upd_ne hb).symm.trans q)
  · rcases at_ q with rfl | ⟨hk, q⟩
    · trivial
    · exact (s.cell k d b q m').mong hl.toge
  · rcases at_ q with rfl | ⟨hk, q⟩
    · cases ld
    · rcases at_ q' with rfl | ⟨hj, q'⟩
      · cases ld'
      · exact s.inj k j d d' b q q' ld ld' mk mj
  · rcases at_ q with rfl | ⟨hk, q⟩
    · cases ld
    · have nb : b ≠ a := fun z => hk (s.inj k n d _ b q e ld rfl m' (by rw [z]; exact m))
      rw [show (W.add a (.lst vs)).phi b = W.phi b from upd_ne nb]
      exact s.mt k d b q ld m'
  · by_cases hb : b = a
    · subst hb
      rw [show (W.add b (.lst vs)).phi b = some (.lst vs) from upd_same] at z
      cases z
    · exact s.knd b q ((upd_ne hb).symm.trans z)
  · obtain ⟨z1, z2, z3⟩ := s.pn b u z
    have nb : b ≠ a := ne_of_none z (s.pc n _ a e rfl m)
    exact ⟨z1, (upd_ne nb).trans z2, z3⟩
  · rcases at_ q with rfl | ⟨hk, q⟩
    · cases ld
    · exact s.pc k d b q ld m'
/-- a thing is pinned, changed, let stand still -/
def Wd.pinned (W : Wd) (a : Addr) (o : HO) : Wd := ⟨W.mu, W.phi, upd W.pin a o⟩
theorem Wd.pinned_ge {a : Addr} {o : HO} : W.ge (W.pinned a o) := ⟨⟨[], (List.append_nil _).symm⟩, fun _ _ e => e⟩
theorem Sim.pinNew (s : Sim K T W S H) {p : Addr} {o : HO} (h : H p = Option.none) (no : ∀ q, o ≠ .tbl q) : Sim K T (W.pinned p o) S (upd H p o) := by
  refine ⟨s.len, fun a u e => ?_, fun n c a e m => ?_, s.inj, s.mt, fun P hP => tab_upd (s.tab P hP) (fun q z => by rw [h] at z; cases z), s.knd, fun a u z => ?_, fun n c a e l m => ?_⟩
  · have q := s.imm a u e
    exact (upd_ne (ne_of_none q h)).trans q
  · have q := (s.cell n c a e m).mong (W' := W.pinned p o) Wd.pinned_ge
    cases hc : c.live with
    | false => cases c <;> first | trivial | cases hc
    | true => rw [upd_ne (s.ne e hc m h)]; exact q
  · by_cases ha : a = p
    · subst ha
      have z' : some o = some u := upd_same.symm.trans z
      cases z'
      exact ⟨upd_same, s.none h, no⟩
    · obtain ⟨z1, z2, z3⟩ := s.pn a u ((upd_ne ha).symm.trans z)
      exact ⟨(upd_ne ha).trans z1, z2, z3⟩
  · exact (upd_ne (s.ne e l m h)).trans (s.pc n c a e l m)
theorem Sim.pinPut (s : Sim K T W S H) {p : Addr} {o o' : HO} (h : W.pin p = some o) (no : ∀ q, o' ≠ .tbl q) : Sim K T (W.pinned p o') S (upd H p o') := by
  obtain ⟨h1, h2, h3⟩ := s.pn p o h
  refine ⟨s.len, fun a u e => ?_, fun n c a e m => ?_, s.inj, s.mt, fun P hP => tab_upd (s.tab P hP) (fun q z => ?_), s.knd, fun a u z => ?_, fun n c a e l m => ?_⟩
  · exact (upd_ne (ne_of_none (show W.phi a = some u from e) h2)).trans (s.imm a u e)
  · have q := (s.cell n c a e m).mong (W' := W.pinned p o') Wd.pinned_ge
    cases hc : c.live with
    | false => cases c <;> first | trivial | cases hc
    | true => rw [upd_ne (Ne.symm (ne_of_none h (s.pc n c a e hc m)))]; exact q
  · rw [h1] at z
    exact h3 q (Option.some.inj z)
  · by_cases ha : a = p
    · subst ha
      have z' : some o' = some u := upd_same.symm.trans z
      cases z'
      exact ⟨upd_same, h2, no⟩
    · obtain ⟨z1, z2, z3⟩ := s.pn a u ((upd_ne ha).symm.trans z)
      exact ⟨(upd_ne ha).trans z1, z2, z3⟩
  · exact (upd_ne (Ne.symm (ne_of_none h (s.pc n c a e l m)))).trans (s.pc n c a e l m)
/-- the pin is drawn: the thing stands still from now on -/
def Wd.still (W : Wd) (g : Hp) (a : Addr) (o : HO) : Wd := ⟨W.mu, upd W.phi a o, g⟩
theorem Sim.pinStill (s : Sim K T W S H) {p : Addr} {o : HO} {g : Hp} (h : W.pin = upd g p o) (hg : g p = Option.none) : Sim K T (W.still g p o) S H ∧ W.ge (W.still g p o) := by
  have hp : W.pin p = some o := by rw [h]; exact upd_same
  obtain ⟨h1, h2, h3⟩ := s.pn p o hp
  have hl : W.ge (W.still g p o) := ⟨⟨[], (List.append_nil _).symm⟩, fun b u e => (upd_ne (ne_of_none e h2)).trans e⟩
  have npin : ∀ a, a ≠ p → W.pin a = g a := fun a ha => by rw [h]; exact upd_ne ha
  refine ⟨⟨s.len, fun a u e => ?_, fun n c a e m => (s.cell n c a e m).mong hl, s.inj, fun n c a e l m => ?_, s.tab, fun a q z => ?_, fun a u z => ?_, fun n c a e l m => ?_⟩, hl⟩
  · by_cases ha : a = p
    · subst ha
      have e' : some o = some u := upd_same.symm.trans e
      cases e'
      exact h1
    · exact s.imm a u ((upd_ne ha).symm.trans e)
  · have na : a ≠ p := Ne.symm (ne_of_none hp (s.pc n c a e l m))
    exact (upd_ne na).trans (s.mt n c a e l m)
  · by_cases ha : a = p
    · subst ha
      exact h3 q (Option.some.inj (upd_same.symm.trans z))
    · exact s.knd a q ((upd_ne ha).symm.trans z)
  · have z : g a = some u := z
    have na : a ≠ p := ne_of_none z hg
    obtain ⟨z1, z2, z3⟩ := s.pn a u ((npin a na).trans z)
    exact ⟨z1, (upd_ne na).trans z2, z3⟩
  · have q := s.pc n c a e l m
    have na : a ≠ p := Ne.symm (ne_of_none hp q)
    exact (npin a na).symm.trans q
/-- the pin is drawn: the list is a cell of the store from now on -/
def Wd.celled (W : Wd) (g : Hp) (a : Addr) : Wd := ⟨W.mu ++ [a], W.phi, g⟩
theorem Sim.pinCell (s : Sim K T W S H) {p : Addr} {vs : List V} {ds : List D} {g : Hp} (h : W.pin = upd g p (.lst vs)) (hg : g p = Option.none) (r : Reps K W ds vs) : Sim K T (W.celled g p) (S ++ [.lst ds]) H ∧ W.ge (W.celled g p) := by
  have hp : W.pin p = some (.lst vs) := by rw [h]; exact upd_same
  obtain ⟨h1, h2, h3⟩ := s.pn p _ hp
  have hl : W.ge (W.celled g p) := ⟨⟨[p], rfl⟩, fun _ _ e => e⟩
  have npin : ∀ a, a ≠ p → W.pin a = g a := fun a ha => by rw [h]; exact upd_ne ha
  have old : ∀ {n : Nat} {c' : Cell} {a : Addr}, (S ++ [Cell.lst ds])[n]? = some c' → (W.celled g p).mu[n]? = some a → (S[n]? = some c' ∧ W.mu[n]? = some a) ∨ (n = S.length ∧ c' = .lst ds ∧ a = p) := fun {n c' a} e m => by
    have m : (W.mu ++ [p])[n]? = some a := m
    by_cases hn : n < S.length
    · rw [List.getElem?_append_left hn] at e
      rw [List.getElem?_append_left (by rw [s.len]; exact hn)] at m
      exact .inl ⟨e, m⟩
    · have hn' : n = S.length := by
        have := (List.getElem?_eq_some_iff.mp e).1
        rw [List.length_append] at this
        simp at this
        omega
      subst hn'
      rw [List.getElem?_append_right (Nat.le_refl _)] at e
      rw [← s.len, List.getElem?_append_right (Nat.le_refl _)] at m
      simp at e m
      exact .inr ⟨rfl, e.symm, m.symm⟩
  have np : ∀ {n : Nat} {c : Cell} {a : Addr}, S[n]? = some c → c.live = true → W.mu[n]? = some a → a ≠ p := fun e l m => Ne.symm (ne_of_none hp (s.pc _ _ _ e l m))
  refine ⟨⟨by show (W.mu ++ [p]).length = _; rw [List.length_append, List.length_append, s.len]; rfl, s.imm, fun n c a e m => ?_, fun n m c1 c2 a e1 e2 l1 l2 m1 m2 => ?_, fun n c' a e l m => ?_, s.tab, s.knd, fun a u z => ?_, fun n c' a e l m => ?_⟩, hl⟩
  · rcases old e m with ⟨e, m⟩ | ⟨_, rfl, rfl⟩
    · exact (s.cell n c a e m).mong hl
    · exact ⟨vs, h1, Reps.mong hl r⟩
  · rcases old e1 m1 with ⟨f1, g1⟩ | ⟨z1, y1, x1⟩
    · rcases old e2 m2 with ⟨f2, g2⟩ | ⟨z2, y2, x2⟩
      · exact s.inj n m c1 c2 a f1 f2 l1 l2 g1 g2
      · exact absurd x2 (np f1 l1 g1)
    · rcases old e2 m2 with ⟨f2, g2⟩ | ⟨z2, y2, x2⟩
      · exact absurd x1 (np f2 l2 g2)
      · rw [z1, z2]
  · rcases old e m with ⟨e, m⟩ | ⟨_, _, rfl⟩
    · exact s.mt n c' a e l m
    · exact h2
  · have z : g a = some u := z
    have na : a ≠ p := ne_of_none z hg
    exact s.pn a u ((npin a na).trans z)
  · rcases old e m with ⟨e, m⟩ | ⟨_, _, rfl⟩
    · exact (npin a (np e l m)).symm.trans (s.pc n c' a e l m)
    · exact hg
/-- the pin is drawn, the thing forgotten -/
def Wd.unpin (W : Wd) (g : Hp) : Wd := ⟨W.mu, W.phi, g⟩
theorem Sim.pinOff (s : Sim K T W S H) {g : Hp} (h : ∀ a o, g a = some o → W.pin a = some o) : Sim K T (W.unpin g) S H ∧ W.ge (W.unpin g) := by
  have hl : W.ge (W.unpin g) := ⟨⟨[], (List.append_nil _).symm⟩, fun _ _ e => e⟩
  refine ⟨⟨s.len, s.imm, fun n c a e m => (s.cell n c a e m).mong hl, s.inj, s.mt, s.tab, s.knd, fun a u z => s.pn a u (h a u z), fun n c a e l m => ?_⟩, hl⟩
  cases z : (W.unpin g).pin a with
  | none => rfl
  | some o =>
    have q := s.pc n c a e l m
    rw [h a o z] at q
    cases q
/-- things that nothing is said of come and go -/
theorem Sim.heap {H' : Hp} (s : Sim K T W S H) (h : ∀ b o, H b = some o → (∀ q, o ≠ .tbl q) → H' b = some o) (t : ∀ P ∈ T, GxR.TabG H' P) : Sim K T W S H' := by
  refine ⟨s.len, fun a o e => h a o (s.imm a o e) (fun q z => s.knd a q (z ▸ e)), fun n c a e m => ?_, s.inj, s.mt, t, s.knd, fun a o e => let ⟨z1, z2, z3⟩ := s.pn a o e; ⟨h a o z1 z3, z2, z3⟩, s.pc⟩
  have q := s.cell n c a e m
  cases c with
  | dead => trivial
  | lst ds => obtain ⟨vs, z, r⟩ := q; exact ⟨vs, h a _ z (fun q e => by cases e), r⟩
  | ins C fs => obtain ⟨dx, vs, z, r⟩ := q; exact ⟨dx, vs, h a _ z (fun q e => by cases e), r⟩
end
end DL

/-! The judgements over values as trees; names, constants, operators, tests, arguments, displays. -/
namespace DL
open PySem PySem.Spec PyProof.Rows L2

abbrev FE := Slots → Store → Option (D × Store)
abbrev FT := Slots → Store → Option (Bool × Store)
abbrev FA := Slots → Store → Option (List D × Store)
abbrev FN := List D → Store → Option (D × Store)

def tD (K : PySem.W.Frag) (T : List Addr) (f : FE) : TE := fun σ H Q => ∃ W S sl r S', Sim K T W S H ∧ RSl K W sl σ ∧ f sl S = some (r, S') ∧ ∀ W' H' v, W.le W' → Sim K T W' S' H' → Rep K W' r v → Q v H'
def tDT (K : PySem.W.Frag) (T : List Addr) (f : FT) : TT := fun σ H Q => ∃ W S sl r S', Sim K T W S H ∧ RSl K W sl σ ∧ f sl S = some (r, S') ∧ ∀ W' H', W.le W' → Sim K T W' S' H' → Q r H'
def tDA (K : PySem.W.Frag) (T : List Addr) (f : FA) : TA := fun σ H Q => ∃ W S sl r S', Sim K T W S H ∧ RSl K W sl σ ∧ f sl S = some (r, S') ∧ ∀ W' H' vs, W.le W' → Sim K T W' S' H' → Reps K W' r vs → Q vs H'
abbrev DE (X : Cx) (T : List Addr) (e : Expr) (f : FE) : Prop := PE X e (tD X.K T f)
abbrev DT (X : Cx) (T : List Addr) (e : Expr) (f : FT) : Prop := PT X e (tDT X.K T f)
abbrev DW (X : Cx) (T : List Addr) (e : Expr) (f : FT) : Prop := PW X e (tDT X.K T f)
abbrev DA (X : Cx) (T : List Addr) (es : List Expr) (f : FA) : Prop := PA X es (tDA X.K T f)

theorem PE.imp {X : Cx} {e : Expr} {t t' : TE} (h : PE X e t) (i : ∀ σ H Q, t' σ H Q → t σ H Q) : PE X e t' := ⟨fun pins s σ H Q I q => h.run pins s σ H Q I (i σ H Q q)⟩
theorem PT.imp {X : Cx} {e : Expr} {t t' : TT} (h : PT X e t) (i : ∀ σ H Q, t' σ H Q → t σ H Q) : PT X e t' := ⟨fun pins s σ H Q I q => h.run pins s σ H Q I (i σ H Q q)⟩
theorem PW.imp {X : Cx} {e : Expr} {t t' : TT} (h : PW X e t) (i : ∀ σ H Q, t' σ H Q → t σ H Q) : PW X e t' := ⟨fun wh pins s σ H Q I q => h.run wh pins s σ H Q I (i σ H Q q)⟩
theorem PA.imp {X : Cx} {es : List Expr} {t t' : TA} (h : PA X es t) (i : ∀ σ H Q, t' σ H Q → t σ H Q) : PA X es t' := ⟨fun pos pins s σ H Q I q => h.run pos pins s σ H Q I (i σ H Q q)⟩

theorem bsome {α β : Type} {o : Option α} {f : α → Option β} {b : β} (h : o.bind f = some b) : ∃ a, o = some a ∧ f a = some b := Option.bind_eq_some_iff.mp h

section
variable {K : PySem.W.Frag} {T : List Addr} {W : Wd} {S S' : Store} {H : Hp} {sl : Slots} {σ : L2.St}
theorem tD.mk {f : FE} {r : D} {Q : VK} (a : Sim K T W S H) (b : RSl K W sl σ) (c : f sl S = some (r, S')) (d : ∀ W' H' v, W.le W' → Sim K T W' S' H' → Rep K W' r v → Q v H') : tD K T f σ H Q := ⟨W, S, sl, r, S', a, b, c, d⟩
theorem tDT.mk {f : FT} {r : Bool} {Q : Bool → Hp → Prop} (a : Sim K T W S H) (b : RSl K W sl σ) (c : f sl S = some (r, S')) (d : ∀ W' H', W.le W' → Sim K T W' S' H' → Q r H') : tDT K T f σ H Q := ⟨W, S, sl, r, S', a, b, c, d⟩
theorem tDA.mk {f : FA} {r : List D} {Q : List V → Hp → Prop} (a : Sim K T W S H) (b : RSl K W sl σ) (c : f sl S = some (r, S')) (d : ∀ W' H' vs, W.le W' → Sim K T W' S' H' → Reps K W' r vs → Q vs H') : tDA K T f σ H Q := ⟨W, S, sl, r, S', a, b, c, d⟩
end

/-! ### names and constants -/
def fVar (i : Nat) : FE := fun sl S => match sl[i]? with
  | some (some d) => some (d, S)
  | _ => none
def fC (d : D) : FE := fun _ S => some (d, S)
section
variable {X : Cx} {T : List Addr} {pos : Pos}
theorem de_of_var {e : Expr} {i : Nat} (h : PE X e (tVar i)) : DE X T e (fVar i) := by
  refine PE.imp h fun σ H Q ⟨W, S, sl, d, S', s, q, e, w⟩ => ?_
  unfold fVar at e
  cases z : sl[i]? with
  | none => rw [z] at e; cases e
  | some o =>
    cases o with
    | none => rw [z] at e; cases e
    | some d' =>
      rw [z] at e
      cases e
      obtain ⟨v, e', r⟩ := q.2 i d z
      exact ⟨v, e', w W H v (Wd.le.refl W) s r⟩
theorem dv (i : Nat) {x : Str} (hN : X.N[i]? = some x := by rfl) (hv : Vis X.env.scope x := by first | exact Or.inl rfl | exact Or.inr (Or.inl rfl) | exact Or.inr (Or.inr rfl)) (hd : (x == ("__debug__" : Str)) = false := by decide)
    (hcd : (x == ("__classdict__" : Str)) = false := by decide) : DE X T (.Name x pos) (fVar i) := de_of_var (pe_var hN hv hd hcd)
theorem de_of_c {e : Expr} {v : V} {d : D} (h : PE X e (tC v)) (hr : ∀ W, Rep X.K W d v) : DE X T e (fC d) := by
  refine PE.imp h fun σ H Q ⟨W, S, sl, d', S', s, q, e, w⟩ => ?_
  cases e
  exact w W H v (Wd.le.refl W) s (hr W)
theorem de_int {i : Int} {j : Nat} : DE X T (.Constant (.int i) j pos) (fC (.int i)) := de_of_c pe_int fun _ => rep_int
theorem de_bl {b : Bool} {j : Nat} : DE X T (.Constant (.bool b) j pos) (fC (.bl b)) := de_of_c pe_bl fun _ => rep_bl
theorem de_non {j : Nat} : DE X T (.Constant .none j pos) (fC .non) := de_of_c pe_non fun _ => rep_non
theorem de_str {s : Str} {j : Nat} : DE X T (.Constant (.str s) j pos) (fC (.str s)) := de_of_c pe_str fun _ => rep_str
/-- a constant of the module: an int -/
theorem de_gint {x : Str} {i : Int} {t : Tok} (hg : Gl X x) (hm : X.mg x = some (.int i t)) (hd : (x == ("__debug__" : Str)) = false := by decide) : DE X T (.Name x pos) (fC (.int i)) :=
  de_of_c (pe_glob (v := .int i) hg hm ⟨t, rfl⟩ hd) fun _ => rep_int
theorem de_gstr {x s : Str} {t : Tok} (hg : Gl X x) (hm : X.mg x = some (.str s t)) (hd : (x == ("__debug__" : Str)) = false := by decide) : DE X T (.Name x pos) (fC (.str s)) :=
  de_of_c (pe_glob (v := .str s) hg hm ⟨t, rfl⟩ hd) fun _ => rep_str
/-- .. a thing of the written part -/
theorem de_gref {x : Str} {a : Addr} {d : D} (hg : Gl X x) (hm : X.mg x = some (.ref a)) (hr : ∀ W, Rep X.K W d (.ref a)) (hd : (x == ("__debug__" : Str)) = false := by decide) : DE X T (.Name x pos) (fC d) :=
  de_of_c (pe_glob (v := .ref a) hg hm rfl hd) hr
end

/-! ### what an operation on values does -/
abbrev Op1 := Store → D → Option D
abbrev Op2 := Store → D → D → Option D
abbrev OpN := Store → List D → Option D
def Got (K : PySem.W.Frag) (T : List Addr) (W : Wd) (S : Store) (d : D) (Q : VK) : Prop := ∀ W' H' v, W.le W' → Sim K T W' S H' → Rep K W' d v → Q v H'
def Op2Ok (K : PySem.W.Frag) (T : List Addr) (r : R2) (f : Op2) : Prop := ∀ W S H x y v u d Q, Sim K T W S H → Rep K W x v → Rep K W y u → f S x y = some d → Got K T W S d Q → r v u H Q
def Op1Ok (K : PySem.W.Frag) (T : List Addr) (r : V → Hp → VK → Prop) (f : Op1) : Prop := ∀ W S H x v d Q, Sim K T W S H → Rep K W x v → f S x = some d → Got K T W S d Q → r v H Q
def OpNOk (K : PySem.W.Frag) (T : List Addr) (r : List V → Hp → VK → Prop) (f : OpN) : Prop := ∀ W S H xs vs d Q, Sim K T W S H → Reps K W xs vs → f S xs = some d → Got K T W S d Q → r vs H Q
theorem Got.here {K : PySem.W.Frag} {T : List Addr} {W : Wd} {S : Store} {d : D} {Q : VK} {H : Hp} {v : V} (g : Got K T W S d Q) (s : Sim K T W S H) (r : Rep K W d v) : Q v H := g W H v (Wd.le.refl W) s r
theorem Got.mono {K : PySem.W.Frag} {T : List Addr} {W W' : Wd} {S : Store} {d : D} {Q : VK} (g : Got K T W S d Q) (l : W.le W') : Got K T W' S d Q := fun W2 H2 v l2 => g W2 H2 v (l.trans l2)
/-- a new tuple, a new list that nobody changes -/
theorem Got.tup {K : PySem.W.Frag} {T : List Addr} {W : Wd} {S : Store} {ds : List D} {Q : VK} {H : Hp} {vs : List V} {p : Addr} (g : Got K T W S (.tup ds) Q) (s : Sim K T W S H) (r : Reps K W ds vs) (h : H p = none) : Q (.ref p) (upd H p (.tup vs)) :=
  let l := Wd.add_le (W := W) (o := .tup vs) (s.none h)
  g _ _ _ l (s.new h (fun q z => by cases z)) (rep_tup (.inl Wd.add_at) (r.mono l))
theorem Got.lst {K : PySem.W.Frag} {T : List Addr} {W : Wd} {S : Store} {ds : List D} {Q : VK} {H : Hp} {vs : List V} {p : Addr} (g : Got K T W S (.lst ds) Q) (s : Sim K T W S H) (r : Reps K W ds vs) (h : H p = none) : Q (.ref p) (upd H p (.lst vs)) :=
  let l := Wd.add_le (W := W) (o := .lst vs) (s.none h)
  g _ _ _ l (s.new h (fun q z => by cases z)) (rep_lst Wd.add_at (r.mono l))

def fOp (op : Op2) (a b : FE) : FE := fun sl S => (a sl S).bind fun p => (b sl p.2).bind fun q => (op q.2 p.1 q.1).bind fun r => some (r, q.2)
def fUn (op : Op1) (a : FE) : FE := fun sl S => (a sl S).bind fun p => (op p.2 p.1).bind fun r => some (r, p.2)
section
variable {X : Cx} {T : List Addr} {pos : Pos} {a b c : Expr} {fa fb fc : FE} {op : Op2}
theorem tD_op {K : PySem.W.Frag} {r : R2} (hs : Op2Ok K T r op) : ∀ σ H Q, tD K T (fOp op fa fb) σ H Q → tOp r (tD K T fa) (tD K T fb) σ H Q := by
  rintro σ H Q ⟨W, S, sl, d, S', s, q, e, w⟩
  obtain ⟨⟨x, S1⟩, e1, e⟩ := bsome e
  obtain ⟨⟨y, S2⟩, e2, e⟩ := bsome e
  obtain ⟨z, e3, e⟩ := bsome e
  cases e
  exact tD.mk s q e1 fun W1 H1 v1 l1 s1 r1 => tD.mk s1 (q.mono l1) e2 fun W2 H2 v2 l2 s2 r2 => hs W2 _ H2 x y v1 v2 d Q s2 (r1.mono l2) r2 e3 fun W3 H3 v3 l3 => w W3 H3 v3 ((l1.trans l2).trans l3)
theorem tD_un {K : PySem.W.Frag} {r : V → Hp → VK → Prop} {op : Op1} (hs : Op1Ok K T r op) : ∀ σ H Q, tD K T (fUn op fa) σ H Q → tUn r (tD K T fa) σ H Q := by
  rintro σ H Q ⟨W, S, sl, d, S', s, q, e, w⟩
  obtain ⟨⟨x, S1⟩, e1, e⟩ := bsome e
  obtain ⟨z, e3, e⟩ := bsome e
  cases e
  exact tD.mk s q e1 fun W1 H1 v1 l1 s1 r1 => hs W1 _ H1 x v1 d Q s1 r1 e3 fun W3 H3 v3 l3 => w W3 H3 v3 (l1.trans l3)
theorem de_op {o : Operator} {r : R2} (ho : OpR X (binaryOp o) r) (hs : Op2Ok X.K T r op) (ha : DE X T a fa) (hb : DE X T b fb) : DE X T (.BinOp a o b pos) (fOp op fa fb) := PE.imp (pe_op ho ha hb) (tD_op hs)
theorem de_un {o : UnaryOp} {r : V → Hp → VK → Prop} {op : Op1} (ho : UnR X (unaryOp o) r) (hs : Op1Ok X.K T r op) (ha : DE X T a fa) : DE X T (.UnaryOp o a pos) (fUn op fa) := PE.imp (pe_un ho ha) (tD_un hs)
theorem de_cmp {o : CmpOp} {r : R2} (ho : OpR X (compareOp o) r) (hs : Op2Ok X.K T r op) (ha : DE X T a fa) (hb : DE X T b fb) (hm : behindInMarks o b = false) : DE X T (.Compare a [o] [b] pos) (fOp op fa fb) := PE.imp (pe_cmpR ho ha hb hm) (tD_op hs)
/-- a value that is True or False, as a test -/
def fTst (a : FE) : FT := fun sl S => (a sl S).bind fun p => match p.1 with
  | .bl b => some (b, p.2)
  | _ => none
theorem tD_tst {K : PySem.W.Frag} {t : TE} (h : ∀ σ H Q, tD K T fa σ H Q → t σ H Q) : ∀ σ H Q, tDT K T (fTst fa) σ H Q → tTest t σ H Q := by
  rintro σ H Q ⟨W, S, sl, d, S', s, q, e, w⟩
  obtain ⟨⟨x, S1⟩, e1, e⟩ := bsome e
  refine h _ _ _ (tD.mk s q e1 fun W1 H1 v1 l1 s1 r1 => ?_)
  cases x with
  | bl b =>
    cases e
    exact ⟨d, r1.bl, w W1 H1 l1 s1⟩
  | _ => cases e
theorem dt_cmp {o : CmpOp} {r : R2} (ho : OpR X (compareOp o) r) (hs : Op2Ok X.K T r op) (ha : DE X T a fa) (hb : DE X T b fb) (hm : behindInMarks o b = false) : DT X T (.Compare a [o] [b] pos) (fTst (fOp op fa fb)) := PT.imp (pt_cmpR ho ha hb hm) (tD_tst (tD_op hs))
/-- a op b op' c -/
def fCh (op op' : Op2) (a b c : FE) : FE := fun sl S => (a sl S).bind fun p => (b sl p.2).bind fun q => (op q.2 p.1 q.1).bind fun r => match r with
  | .bl true => (c sl q.2).bind fun t => (op' t.2 q.1 t.1).bind fun r => some (r, t.2)
  | .bl false => some (.bl false, q.2)
  | _ => none
theorem tD_ch {K : PySem.W.Frag} {r r' : R2} {op' : Op2} (hs : Op2Ok K T r op) (hs' : Op2Ok K T r' op') : ∀ σ H Q, tD K T (fCh op op' fa fb fc) σ H Q → tChain r r' (tD K T fa) (tD K T fb) (tD K T fc) σ H Q := by
  rintro σ H Q ⟨W, S, sl, d, S', s, q, e, w⟩
  obtain ⟨⟨x, S1⟩, e1, e⟩ := bsome e
  obtain ⟨⟨y, S2⟩, e2, e⟩ := bsome e
  obtain ⟨z, e3, e⟩ := bsome e
  refine tD.mk s q e1 fun W1 H1 v1 l1 s1 r1 => tD.mk s1 (q.mono l1) e2 fun W2 H2 v2 l2 s2 r2 => hs W2 _ H2 x y v1 v2 z _ s2 (r1.mono l2) r2 e3 fun W3 H3 v3 l3 s3 r3 => ?_
  cases z with
  | bl k =>
    refine ⟨k, r3.bl, ?_⟩
    cases k with
    | true =>
      obtain ⟨⟨z, S3⟩, e4, e⟩ := bsome e
      obtain ⟨u, e5, e⟩ := bsome e
      cases e
      rw [if_pos rfl]
      exact tD.mk s3 (q.mono ((l1.trans l2).trans l3)) e4 fun W4 H4 v4 l4 s4 r4 => hs' W4 _ H4 y z v2 v4 d Q s4 (r2.mono (l3.trans l4)) r4 e5 fun W5 H5 v5 l5 => w W5 H5 v5 ((((l1.trans l2).trans l3).trans l4).trans l5)
    | false =>
      cases e
      rw [if_neg Bool.false_ne_true]
      exact w W3 H3 _ ((l1.trans l2).trans l3) s3 rep_bl
  | _ => cases e
theorem de_ch {o o' : CmpOp} {r r' : R2} {op' : Op2} (ho : OpR X (compareOp o) r) (ho' : OpR X (compareOp o') r') (hs : Op2Ok X.K T r op) (hs' : Op2Ok X.K T r' op') (ha : DE X T a fa) (hb : DE X T b fb) (hc : DE X T c fc)
    (hm : lastMarks [o, o'] [b, c] = false := by with_unfolding_all rfl) : DE X T (.Compare a [o, o'] [b, c] pos) (fCh op op' fa fb fc) := PE.imp (pe_chain ho ho' ha hb hc hm) (tD_ch hs hs')
theorem dt_ch {o o' : CmpOp} {r r' : R2} {op' : Op2} (ho : OpR X (compareOp o) r) (ho' : OpR X (compareOp o') r') (hs : Op2Ok X.K T r op) (hs' : Op2Ok X.K T r' op') (ha : DE X T a fa) (hb : DE X T b fb) (hc : DE X T c fc)
    (hm : lastMarks [o, o'] [b, c] = false := by with_unfolding_all rfl) : DT X T (.Compare a [o, o'] [b, c] pos) (fTst (fCh op op' fa fb fc)) := PT.imp (pt_chain ho ho' ha hb hc hm) (tD_tst (tD_ch hs hs'))
end

/-! ### lists, tuples by their cells -/
def cellL (S : Store) (n : Nat) : Option (List D) := match S[n]? with
  | some (.lst xs) => some xs
  | _ => none
def asL (S : Store) : D → Option (List D)
  | .lst xs => some xs
  | .ref n => cellL S n
  | _ => none
def asQ (S : Store) : D → Option (List D)
  | .lst xs => some xs
  | .tup xs => some xs
  | .scr ns => some (ns.map D.int)
  | .ref n => cellL S n
  | _ => none
theorem cellL_some {S : Store} {n : Nat} {xs : List D} (h : cellL S n = some xs) : S[n]? = some (.lst xs) := by
  unfold cellL at h
  cases z : S[n]? with
  | none => rw [z] at h; cases h
  | some c =>
    rw [z] at h
    cases c with
    | lst ys => cases h; rfl
    | _ => cases h
section
variable {K : PySem.W.Frag} {T : List Addr} {W : Wd} {S : Store} {H : Hp} {d : D} {v : V} {xs : List D}
theorem asL_ok (s : Sim K T W S H) (r : Rep K W d v) (e : asL S d = some xs) : ∃ a vs, v = .ref a ∧ H a = some (.lst vs) ∧ Reps K W xs vs := by
  cases d with
  | lst ys =>
    cases e
    obtain ⟨a, vs, rfl, h, q⟩ := r.lst
    exact ⟨a, vs, rfl, h.at s, q⟩
  | ref n =>
    obtain ⟨a, m, rfl⟩ := r.ref
    obtain ⟨vs, h, q⟩ := s.cell n _ a (cellL_some e) m
    exact ⟨a, vs, rfl, h, q⟩
  | _ => cases e
theorem asQ_ok (s : Sim K T W S H) (r : Rep K W d v) (e : asQ S d = some xs) : ∃ a vs, v = .ref a ∧ (SqL K H a vs ∨ SqT K H a vs) ∧ Reps K W xs vs := by
  cases d with
  | tup ys =>
    cases e
    obtain ⟨a, vs, rfl, h, q⟩ := r.tup
    exact ⟨a, vs, rfl, .inr (h.seq s), q⟩
  | scr ns =>
    cases e
    obtain ⟨a, rfl, h⟩ := r.scr
    exact ⟨a, _, rfl, .inl (h.seq s), reps_ints ns⟩
  | lst ys =>
    obtain ⟨a, vs, e1, h, q⟩ := asL_ok (xs := xs) s r e
    exact ⟨a, vs, e1, .inl (.inl (.inl h)), q⟩
  | ref n =>
    obtain ⟨a, vs, e1, h, q⟩ := asL_ok (xs := xs) s r e
    exact ⟨a, vs, e1, .inl (.inl (.inl h)), q⟩
  | _ => cases e
end

/-! ### truth -/
def dTru (S : Store) : D → Option Bool
  | .non => some false
  | .bl b => some b
  | .int i => some (i != 0)
  | .str s => if s.length ≤ sizeLine then some ((s.length : Int) != 0) else none
  | d => match asQ S d with
    | some xs => some (!xs.isEmpty)
    | none => none
theorem isEmpty_reps {K : PySem.W.Frag} {W : Wd} {xs : List D} {vs : List V} (r : Reps K W xs vs) : vs.isEmpty = xs.isEmpty := by
  have e := r.length
  cases xs with
  | nil => rw [r.nil]; rfl
  | cons x y =>
    obtain ⟨v, q, rfl, _, _⟩ := r.cons
    rfl
theorem dTru_ok {K : PySem.W.Frag} {T : List Addr} {W : Wd} {S : Store} {H : Hp} {d : D} {v : V} {k : Bool} (s : Sim K T W S H) (r : Rep K W d v) (e : dTru S d = some k) : TruV K v H k := by
  have gen : ∀ xs, asQ S d = some xs → k = !xs.isEmpty → TruV K v H k := fun xs h hk => by
    obtain ⟨a, vs, rfl, z, q⟩ := asQ_ok s r h
    rw [← isEmpty_reps q] at hk
    rcases z with z | z
    · exact .inl ⟨vs, z, hk⟩
    · exact .inr (.inl ⟨vs, z, hk⟩)
  cases d with
  | non => cases e; rw [r.non]; rfl
  | bl b => cases e; rw [r.bl]; rfl
  | int i => cases e; rw [r.int]; rfl
  | str x =>
    simp only [dTru] at e
    split at e
    · rename_i h
      cases e
      rw [r.str]
      exact ⟨h, rfl⟩
    · cases e
  | tup xs => cases e; exact gen xs rfl rfl
  | scr ns => cases e; exact gen _ rfl rfl
  | lst xs => cases e; exact gen xs rfl rfl
  | ref n =>
    simp only [dTru] at e
    cases z : asQ S (.ref n) with
    | none => rw [z] at e; cases e
    | some xs => rw [z] at e; cases e; exact gen xs z rfl
def fTru (a : FE) : FT := fun sl S => (a sl S).bind fun p => (dTru p.2 p.1).bind fun k => some (k, p.2)
def fNot (t : FT) : FT := fun sl S => (t sl S).bind fun p => some (!p.1, p.2)
def fAnd (t u : FT) : FT := fun sl S => (t sl S).bind fun p => if p.1 then u sl p.2 else some (false, p.2)
def fOr (t u : FT) : FT := fun sl S => (t sl S).bind fun p => if p.1 then some (true, p.2) else u sl p.2
def fIfE (t : FT) (a b : FE) : FE := fun sl S => (t sl S).bind fun p => if p.1 then a sl p.2 else b sl p.2
/-- a and b, a or b, not a, as values -/
def fAndV (a b : FE) : FE := fun sl S => (a sl S).bind fun p => (dTru p.2 p.1).bind fun k => if k then b sl p.2 else some p
def fOrV (a b : FE) : FE := fun sl S => (a sl S).bind fun p => (dTru p.2 p.1).bind fun k => if k then some p else b sl p.2
def fNotV (a : FE) : FE := fun sl S => (a sl S).bind fun p => (dTru p.2 p.1).bind fun k => some (.bl (!k), p.2)
section
variable {X : Cx} {T : List Addr} {pos : Pos} {a b c : Expr} {rest : List Expr} {fa fb : FE} {t u : FT}
theorem dt_tru (ha : DE X T a fa) (he : ∀ whole, isTrue a X.env whole = (do let v ← whole; standAt a.pos; holding [v] (truthy v)) := by intro _; rfl) : DT X T a (fTru fa) := by
  refine PT.imp (pt_truth ha he) fun σ H Q ⟨W, S, sl, d, S', s, q, e, w⟩ => ?_
  obtain ⟨⟨x, S1⟩, e1, e⟩ := bsome e
  obtain ⟨k, e2, e⟩ := bsome e
  cases e
  exact tD.mk s q e1 fun W1 H1 v1 l1 s1 r1 => ⟨d, dTru_ok s1 r1 e2, w W1 H1 l1 s1⟩
theorem dt_not (ha : DT X T a t) : DT X T (.UnaryOp .Not a pos) (fNot t) := by
  refine PT.imp (pt_not ha) fun σ H Q ⟨W, S, sl, d, S', s, q, e, w⟩ => ?_
  obtain ⟨⟨x, S1⟩, e1, e⟩ := bsome e
  cases e
  exact tDT.mk s q e1 fun W1 H1 l1 s1 => w W1 H1 l1 s1
theorem dw_and1 (ha : DT X T a t) : DW X T (.BoolOp .And [a] pos) t := pw_and1 ha
theorem dw_or1 (ha : DT X T a t) : DW X T (.BoolOp .Or [a] pos) t := pw_or1 ha
theorem dw_and (ha : DT X T a t) (hb : DW X T (.BoolOp .And (b :: rest) pos) u) : DW X T (.BoolOp .And (a :: b :: rest) pos) (fAnd t u) := by
  refine PW.imp (pw_and ha hb) fun σ H Q ⟨W, S, sl, d, S', s, q, e, w⟩ => ?_
  obtain ⟨⟨x, S1⟩, e1, e⟩ := bsome e
  refine tDT.mk s q e1 fun W1 H1 l1 s1 => ?_
  cases x with
  | true => exact iteT (tDT.mk s1 (q.mono l1) e fun W2 H2 l2 s2 => w W2 H2 (l1.trans l2) s2)
  | false => cases e; exact iteF (w W1 H1 l1 s1)
theorem dw_or (ha : DT X T a t) (hb : DW X T (.BoolOp .Or (b :: rest) pos) u) : DW X T (.BoolOp .Or (a :: b :: rest) pos) (fOr t u) := by
  refine PW.imp (pw_or ha hb) fun σ H Q ⟨W, S, sl, d, S', s, q, e, w⟩ => ?_
  obtain ⟨⟨x, S1⟩, e1, e⟩ := bsome e
  refine tDT.mk s q e1 fun W1 H1 l1 s1 => ?_
  cases x with
  | true => cases e; exact iteT (w W1 H1 l1 s1)
  | false => exact iteF (tDT.mk s1 (q.mono l1) e fun W2 H2 l2 s2 => w W2 H2 (l1.trans l2) s2)
theorem dt_w (h : DW X T a t) : DT X T a t := PW.pt h
theorem de_if (hc : DT X T c t) (ha : DE X T a fa) (hb : DE X T b fb) : DE X T (.IfExp c a b pos) (fIfE t fa fb) := by
  refine PE.imp (pe_ifExp hc ha hb) fun σ H Q ⟨W, S, sl, d, S', s, q, e, w⟩ => ?_
  obtain ⟨⟨x, S1⟩, e1, e⟩ := bsome e
  refine tDT.mk s q e1 fun W1 H1 l1 s1 => ?_
  cases x with
  | true => exact iteT (tD.mk s1 (q.mono l1) e fun W2 H2 v l2 => w W2 H2 v (l1.trans l2))
  | false => exact iteF (tD.mk s1 (q.mono l1) e fun W2 H2 v l2 => w W2 H2 v (l1.trans l2))
theorem de_and1 (ha : DE X T a fa) : DE X T (.BoolOp .And [a] pos) fa := pe_one ha
theorem de_or1 (ha : DE X T a fa) : DE X T (.BoolOp .Or [a] pos) fa := pe_one ha
theorem de_and (ha : DE X T a fa) (hb : DE X T (.BoolOp .And (b :: rest) pos) fb) : DE X T (.BoolOp .And (a :: b :: rest) pos) (fAndV fa fb) := by
  refine PE.imp (pe_andT ha hb) fun σ H Q ⟨W, S, sl, d, S', s, q, e, w⟩ => ?_
  obtain ⟨⟨x, S1⟩, e1, e⟩ := bsome e
  obtain ⟨k, e2, e⟩ := bsome e
  refine tD.mk s q e1 fun W1 H1 v1 l1 s1 r1 => ⟨k, dTru_ok s1 r1 e2, ?_⟩
  cases k with
  | true => exact iteT (tD.mk s1 (q.mono l1) e fun W2 H2 v l2 => w W2 H2 v (l1.trans l2))
  | false => cases e; exact iteF (w W1 H1 v1 l1 s1 r1)
theorem de_or (ha : DE X T a fa) (hb : DE X T (.BoolOp .Or (b :: rest) pos) fb) : DE X T (.BoolOp .Or (a :: b :: rest) pos) (fOrV fa fb) := by
  refine PE.imp (pe_orT ha hb) fun σ H Q ⟨W, S, sl, d, S', s, q, e, w⟩ => ?_
  obtain ⟨⟨x, S1⟩, e1, e⟩ := bsome e
  obtain ⟨k, e2, e⟩ := bsome e
  refine tD.mk s q e1 fun W1 H1 v1 l1 s1 r1 => ⟨k, dTru_ok s1 r1 e2, ?_⟩
  cases k with
  | true => cases e; exact iteT (w W1 H1 v1 l1 s1 r1)
  | false => exact iteF (tD.mk s1 (q.mono l1) e fun W2 H2 v l2 => w W2 H2 v (l1.trans l2))
theorem de_not (ha : DE X T a fa) : DE X T (.UnaryOp .Not a pos) (fNotV fa) := by
  refine PE.imp (pe_notT ha) fun σ H Q ⟨W, S, sl, d, S', s, q, e, w⟩ => ?_
  obtain ⟨⟨x, S1⟩, e1, e⟩ := bsome e
  obtain ⟨k, e2, e⟩ := bsome e
  cases e
  exact tD.mk s q e1 fun W1 H1 v1 l1 s1 r1 => ⟨k, dTru_ok s1 r1 e2, w W1 H1 _ l1 s1 rep_bl⟩
end

/-! ### arguments, displays, calls of built-ins -/
def fNil : FA := fun _ S => some ([], S)
def fCons (a : FE) (r : FA) : FA := fun sl S => (a sl S).bind fun p => (r sl p.2).bind fun q => some (p.1 :: q.1, q.2)
def fTup (r : FA) : FE := fun sl S => (r sl S).bind fun p => if p.1.length ≤ sizeLine then some (.tup p.1, p.2) else none
def fLst (r : FA) : FE := fun sl S => (r sl S).bind fun p => if p.1.length ≤ sizeLine then some (.lst p.1, p.2) else none
/-- a display that is a cell of the store: it will be changed -/
def fLstM (r : FA) : FE := fun sl S => (r sl S).bind fun p => if p.1.length ≤ sizeLine then some (.ref p.2.length, p.2 ++ [.lst p.1]) else none
def fCB (op : OpN) (r : FA) : FE := fun sl S => (r sl S).bind fun p => (op p.2 p.1).bind fun d => some (d, p.2)
section
variable {X : Cx} {T : List Addr} {pos : Pos} {e : Expr} {es : List Expr} {fe : FE} {fr : FA}
theorem da_nil : DA X T [] fNil := by
  refine PA.imp pa_nil fun σ H Q ⟨W, S, sl, d, S', s, q, e, w⟩ => ?_
  cases e
  exact w W H [] (Wd.le.refl W) s reps_nil
theorem da_cons (he : DE X T e fe) (hr : DA X T es fr) (hs : starEach (e :: es) X.env = (false, eval e X.env) :: starEach es X.env := by rfl) : DA X T (e :: es) (fCons fe fr) := by
  refine PA.imp (pa_cons he hr hs) fun σ H Q ⟨W, S, sl, d, S', s, q, e, w⟩ => ?_
  obtain ⟨⟨x, S1⟩, e1, e⟩ := bsome e
  obtain ⟨⟨y, S2⟩, e2, e⟩ := bsome e
  cases e
  exact tD.mk s q e1 fun W1 H1 v1 l1 s1 r1 => tDA.mk s1 (q.mono l1) e2 fun W2 H2 vs l2 s2 r2 => w W2 H2 (v1 :: vs) (l1.trans l2) s2 (reps_cons (r1.mono l2) r2)
theorem de_tup {k : Nat} (h : DA X T es fr) : DE X T (.Tuple es k pos) (fTup fr) := by
  refine PE.imp (pe_tup h) fun σ H Q ⟨W, S, sl, d, S', s, q, e, w⟩ => ?_
  obtain ⟨⟨ds, S1⟩, e1, e⟩ := bsome e
  dsimp only at e
  split at e
  · rename_i hl
    cases e
    refine tDA.mk s q e1 fun W1 H1 vs l1 s1 r1 => ⟨by rw [r1.length]; exact hl, fun p hp => ?_⟩
    exact Got.tup (fun W2 H2 v l2 => w W2 H2 v (l1.trans l2)) s1 r1 hp
  · cases e
theorem de_lst (h : DA X T es fr) : DE X T (.List es pos) (fLst fr) := by
  refine PE.imp (pe_lst h) fun σ H Q ⟨W, S, sl, d, S', s, q, e, w⟩ => ?_
  obtain ⟨⟨ds, S1⟩, e1, e⟩ := bsome e
  dsimp only at e
  split at e
  · rename_i hl
    cases e
    refine tDA.mk s q e1 fun W1 H1 vs l1 s1 r1 => ⟨by rw [r1.length]; exact hl, fun p hp => ?_⟩
    exact Got.lst (fun W2 H2 v l2 => w W2 H2 v (l1.trans l2)) s1 r1 hp
  · cases e
theorem de_lstM (h : DA X T es fr) : DE X T (.List es pos) (fLstM fr) := by
  refine PE.imp (pe_lst h) fun σ H Q ⟨W, S, sl, d, S', s, q, e, w⟩ => ?_
  obtain ⟨⟨ds, S1⟩, e1, e⟩ := bsome e
  dsimp only at e
  split at e
  · rename_i hl
    cases e
    refine tDA.mk s q e1 fun W1 H1 vs l1 s1 r1 => ⟨by rw [r1.length]; exact hl, fun p hp => ?_⟩
    exact w _ _ _ (l1.trans Wd.more_le) (s1.more (c := .lst ds) hp ⟨vs, rfl, r1⟩ rfl) (rep_ref s1.more_at)
  · cases e
theorem de_cb {id : String} {x : Str} {p : Pos} {r : List V → Hp → VK → Prop} {op : OpN} (hs : OpNOk X.K T r op) (hc : CallR X (.builtin id) r) (hg : Gl X x) (hm : X.mg x = none) (hv : bootBuiltins x = some (.builtin id)) (ha : DA X T (e :: es) fr) (hn : x ≠ "__name__" := by decide) (hdb : (x == ("__debug__" : Str)) = false := by decide)
    (he : starEach (e :: es) X.env = (false, eval e X.env) :: starEach es X.env := by rfl) (hpl : (backTo pos (starEach es X.env)).any (·.1) = false := by rfl) : DE X T (.Call (.Name x p) (e :: es) [] pos) (fCB op fr) := by
  refine PE.imp (pe_callB hc hg hm hv ha hn hdb he hpl) fun σ H Q ⟨W, S, sl, d, S', s, q, e, w⟩ => ?_
  obtain ⟨⟨ds, S1⟩, e1, e⟩ := bsome e
  obtain ⟨z, e2, e⟩ := bsome e
  cases e
  exact tDA.mk s q e1 fun W1 H1 vs l1 s1 r1 => hs W1 _ H1 ds vs d Q s1 r1 e2 fun W3 H3 v3 l3 => w W3 H3 v3 (l1.trans l3)
theorem de_cty {id : String} {x : Str} {p : Pos} {r : List V → Hp → VK → Prop} {op : OpN} (hs : OpNOk X.K T r op) (hc : CallR X (.type id) r) (hg : Gl X x) (hm : X.mg x = none) (hv : bootBuiltins x = some (.type id)) (ha : DA X T (e :: es) fr) (hn : x ≠ "__name__" := by decide) (hdb : (x == ("__debug__" : Str)) = false := by decide)
    (he : starEach (e :: es) X.env = (false, eval e X.env) :: starEach es X.env := by rfl) (hpl : (backTo pos (starEach es X.env)).any (·.1) = false := by rfl) : DE X T (.Call (.Name x p) (e :: es) [] pos) (fCB op fr) := by
  refine PE.imp (pe_callTy hc hg hm hv ha hn hdb he hpl) fun σ H Q ⟨W, S, sl, d, S', s, q, e, w⟩ => ?_
  obtain ⟨⟨ds, S1⟩, e1, e⟩ := bsome e
  obtain ⟨z, e2, e⟩ := bsome e
  cases e
  exact tDA.mk s q e1 fun W1 H1 vs l1 s1 r1 => hs W1 _ H1 ds vs d Q s1 r1 e2 fun W3 H3 v3 l3 => w W3 H3 v3 (l1.trans l3)
end
end DL

/-! Operations on values as trees. -/
namespace DL
open PySem PySem.Spec PyProof.Rows L2

/-! ### numbers -/
def dSub : Op2 := fun _ x y => match x, y with
  | .int i, .int j => some (.int (i - j))
  | _, _ => none
def dMod : Op2 := fun _ x y => match x, y with
  | .int i, .int j => if 0 < j then some (.int (i % j)) else none
  | _, _ => none
def dFdiv : Op2 := fun _ x y => match x, y with
  | .int i, .int j => if 0 < j ∧ j < 1073741824 then some (.int (i / j)) else none
  | _, _ => none
def dNeg : Op1 := fun _ x => match x with
  | .int i => some (.int (-i))
  | _ => none
def dCmp (p : Int → Int → Bool) : Op2 := fun _ x y => match x, y with
  | .int i, .int j => some (.bl (p i j))
  | _, _ => none
section
variable {K : PySem.W.Frag} {T : List Addr}
theorem ok_sub : Op2Ok K T (rI0 fun i j => .int (i - j)) dSub := by
  intro W S H x y v u d Q s rx ry e g
  cases x with
  | int i =>
    cases y with
    | int j =>
      cases e
      exact ⟨i, j, rx.int, ry.int, g.here s rep_int⟩
    | _ => cases e
  | _ => cases e
theorem ok_mod : Op2Ok K T (rI (fun _ j => 0 < j) fun i j => .int (i % j)) dMod := by
  intro W S H x y v u d Q s rx ry e g
  cases x with
  | int i =>
    cases y with
    | int j =>
      simp only [dMod] at e
      split at e
      · rename_i h
        cases e
        exact ⟨i, j, rx.int, ry.int, h, g.here s rep_int⟩
      · cases e
    | _ => cases e
  | _ => cases e
theorem ok_fdiv : Op2Ok K T (rI CDiv fun i j => .int (i / j)) dFdiv := by
  intro W S H x y v u d Q s rx ry e g
  cases x with
  | int i =>
    cases y with
    | int j =>
      simp only [dFdiv] at e
      split at e
      · rename_i h
        cases e
        exact ⟨i, j, rx.int, ry.int, h, g.here s rep_int⟩
      · cases e
    | _ => cases e
  | _ => cases e
theorem ok_neg : Op1Ok K T (rU fun i => .int (-i)) dNeg := by
  intro W S H x v d Q s rx e g
  cases x with
  | int i => cases e; exact ⟨i, rx.int, g.here s rep_int⟩
  | _ => cases e
theorem ok_cmpI (p : Int → Int → Bool) : Op2Ok K T (rI0 fun i j => .bl (p i j)) (dCmp p) := by
  intro W S H x y v u d Q s rx ry e g
  cases x with
  | int i =>
    cases y with
    | int j =>
      cases e
      exact ⟨i, j, rx.int, ry.int, g.here s rep_bl⟩
    | _ => cases e
  | _ => cases e
end

/-! ### + and * -/
def rCat0 : R2 := rCat
def rAddAny (K : PySem.W.Frag) : R2 := fun x y H Q => (rI0 (fun i j => V.int (i + j)) x y H Q ∨ (∃ i j, x = .str i ∧ y = .str j ∧ i.length + j.length ≤ sizeLine ∧ Q (.str (i ++ j)) H)) ∨ (rCat x y H Q ∨ rCatA K x y H Q)
theorem op_addAny {X : Cx} : OpR X (binaryOp .Add) (rAddAny X.K) := (op_add.or op_add_str).or (op_cat.or op_catA)
def dAdd : Op2 := fun S x y => match x, y with
  | .int i, .int j => some (.int (i + j))
  | .str a, .str b => if a.length + b.length ≤ sizeLine then some (.str (a ++ b)) else none
  | .tup xs, .tup ys => if xs.length + ys.length ≤ sizeLine then some (.tup (xs ++ ys)) else none
  | x, y => (asL S x).bind fun xs => (asL S y).bind fun ys => if xs.length + ys.length ≤ sizeLine then some (.lst (xs ++ ys)) else none
section
variable {K : PySem.W.Frag} {T : List Addr}
theorem add_lists {W : Wd} {S : Store} {H : Hp} {x y d : D} {v u : V} {Q : VK} (s : Sim K T W S H) (rx : Rep K W x v) (ry : Rep K W y u)
    (e : ((asL S x).bind fun xs => (asL S y).bind fun ys => if xs.length + ys.length ≤ sizeLine then some (D.lst (xs ++ ys)) else none) = some d) (g : Got K T W S d Q) : rCat v u H Q := by
  obtain ⟨xs, e1, e⟩ := bsome e
  obtain ⟨ys, e2, e⟩ := bsome e
  split at e
  · rename_i hl
    cases e
    obtain ⟨a, vs, rfl, ha, qa⟩ := asL_ok s rx e1
    obtain ⟨b, ws, rfl, hb, qb⟩ := asL_ok s ry e2
    exact ⟨a, b, vs, ws, rfl, rfl, ha, hb, by rw [qa.length, qb.length]; exact hl, fun p hp => g.lst s (qa.append qb) hp⟩
  · cases e
theorem ok_add : Op2Ok K T (rAddAny K) dAdd := by
  intro W S H x y v u d Q s rx ry e g
  cases x with
  | int i =>
    cases y with
    | int j => cases e; exact .inl (.inl ⟨i, j, rx.int, ry.int, g.here s rep_int⟩)
    | _ => exact .inr (.inl (add_lists s rx ry e g))
  | str i =>
    cases y with
    | str j =>
      simp only [dAdd] at e
      split at e
      · rename_i h
        cases e
        exact .inl (.inr ⟨i, j, rx.str, ry.str, h, g.here s rep_str⟩)
      · cases e
    | _ => exact .inr (.inl (add_lists s rx ry e g))
  | tup xs =>
    cases y with
    | tup ys =>
      simp only [dAdd] at e
      split at e
      · rename_i h
        cases e
        obtain ⟨a, vs, rfl, ha, qa⟩ := rx.tup
        obtain ⟨b, ws, rfl, hb, qb⟩ := ry.tup
        refine .inr (.inr ⟨a, b, vs, ws, rfl, rfl, ha.seq s, hb.seq s, by rw [qa.length, qb.length]; exact h, fun z => ?_, fun _ z => ?_, fun _ _ p hp => g.tup s (qa.append qb) hp⟩)
        · subst z
          cases xs with
          | nil => exact g.here s ry
          | cons _ _ => obtain ⟨_, _, z, _⟩ := qa.cons; cases z
        · subst z
          cases ys with
          | nil => rw [List.append_nil] at g; exact g.here s rx
          | cons _ _ => obtain ⟨_, _, z, _⟩ := qb.cons; cases z
      · cases e
    | _ => exact .inr (.inl (add_lists s rx ry e g))
  | _ => cases y <;> exact .inr (.inl (add_lists s rx ry e g))
end
theorem dAdd_int {S : Store} {i j : Int} : dAdd S (.int i) (.int j) = some (.int (i + j)) := rfl
theorem dAdd_lst {S : Store} {xs ys : List D} : dAdd S (.lst xs) (.lst ys) = if xs.length + ys.length ≤ sizeLine then some (.lst (xs ++ ys)) else none := rfl
theorem dAdd_tup {S : Store} {xs ys : List D} : dAdd S (.tup xs) (.tup ys) = if xs.length + ys.length ≤ sizeLine then some (.tup (xs ++ ys)) else none := rfl
theorem dAdd_str {S : Store} {a b : Str} : dAdd S (.str a) (.str b) = if a.length + b.length ≤ sizeLine then some (.str (a ++ b)) else none := rfl

def rMulAny : R2 := fun x y H Q => rI CMul (fun i j => .int (i * j)) x y H Q ∨ rRep x y H Q
theorem op_mulAny {X : Cx} : OpR X (binaryOp .Mult) rMulAny := op_mul.or op_rep
instance {i j : Int} : Decidable (CMul i j) := by unfold CMul; infer_instance
def dMul : Op2 := fun S x y => match x, y with
  | .int i, .int j => if CMul i j then some (.int (i * j)) else none
  | x, .int k => (asL S x).bind fun xs => if -(2 ^ 63) ≤ k ∧ k < 2 ^ 63 ∧ xs.length * k.toNat ≤ sizeLine then some (.lst (List.replicate k.toNat xs).flatten) else none
  | _, _ => none
theorem Reps.rep {K : PySem.W.Frag} {W : Wd} {ds : List D} {vs : List V} (h : Reps K W ds vs) : ∀ n, Reps K W (List.replicate n ds).flatten (List.replicate n vs).flatten
  | 0 => reps_nil
  | n + 1 => by
    rw [List.replicate_succ, List.replicate_succ, List.flatten_cons, List.flatten_cons]
    exact h.append (Reps.rep h n)
theorem ok_mul {K : PySem.W.Frag} {T : List Addr} : Op2Ok K T rMulAny dMul := by
  intro W S H x y v u d Q s rx ry e g
  have gen : ∀ k, y = .int k → ((asL S x).bind fun xs => if -(2 ^ 63) ≤ k ∧ k < 2 ^ 63 ∧ xs.length * k.toNat ≤ sizeLine then some (D.lst (List.replicate k.toNat xs).flatten) else none) = some d → rMulAny v u H Q := fun k hy e' => by
    subst hy
    obtain ⟨xs, e1, e⟩ := bsome e'
    split at e
    · rename_i hl
      cases e
      obtain ⟨a, vs, rfl, ha, qa⟩ := asL_ok s rx e1
      exact .inr ⟨a, k, vs, rfl, ry.int, ha, hl.1, hl.2.1, by rw [qa.length]; exact hl.2.2, fun p hp => g.lst s (qa.rep _) hp⟩
    · cases e
  cases y with
  | int j =>
    cases x with
    | int i =>
      simp only [dMul] at e
      split at e
      · rename_i h
        cases e
        exact .inl ⟨i, j, rx.int, ry.int, h, g.here s rep_int⟩
      · cases e
    | _ => exact gen j rfl e
  | _ => cases x <;> cases e
theorem dMul_int {S : Store} {i j : Int} : dMul S (.int i) (.int j) = if CMul i j then some (.int (i * j)) else none := rfl
theorem dMul_lst {S : Store} {xs : List D} {k : Int} : dMul S (.lst xs) (.int k) = if -(2 ^ 63) ≤ k ∧ k < 2 ^ 63 ∧ xs.length * k.toNat ≤ sizeLine then some (.lst (List.replicate k.toNat xs).flatten) else none := rfl

/-! ### == and != by data -/
mutual
def toPy : D → Option PyData
  | .non => some .none
  | .bl b => some (.bool b)
  | .int i => some (.int i)
  | .str s => some (.str s)
  | .tup xs => (toPys xs).bind fun ys => some (.tuple ys)
  | .lst xs => (toPys xs).bind fun ys => some (.list ys)
  | .ref _ => none
  | .scr ns => some (.list (ns.map PyData.int))
def toPys : List D → Option (List PyData)
  | [] => some []
  | x :: xs => (toPy x).bind fun y => (toPys xs).bind fun ys => some (y :: ys)
end
def asPy (S : Store) : D → Option PyData
  | .ref n => (cellL S n).bind fun xs => (toPys xs).bind fun ys => some (.list ys)
  | d => toPy d
section
variable {K : PySem.W.Frag} {T : List Addr} {W : Wd} {S : Store} {H : Hp}
theorem dpAll_ints : ∀ ns : List Int, DpAll K H (ns.map V.int) (ns.map PyData.int)
  | [] => .nil
  | n :: ns => .cons (.int n) (dpAll_ints ns)
mutual
theorem toPy_ok (s : Sim K T W S H) : ∀ {d : D} {v : V} {p : PyData}, Rep K W d v → toPy d = some p → Dp K H v p
  | .non, _, _, r, e => by unfold toPy at e; cases e; rw [r.non]; exact .non
  | .bl b, _, _, r, e => by unfold toPy at e; cases e; rw [r.bl]; exact .bl b
  | .int i, _, _, r, e => by unfold toPy at e; cases e; rw [r.int]; exact .int i
  | .str z, _, _, r, e => by unfold toPy at e; cases e; rw [r.str]; exact .str z
  | .tup xs, _, _, r, e => by
    unfold toPy at e
    obtain ⟨ys, e1, e⟩ := bsome e
    cases e
    obtain ⟨a, vs, rfl, h, q⟩ := r.tup
    exact .tup (h.seq s) (toPys_ok s q e1)
  | .lst xs, _, _, r, e => by
    unfold toPy at e
    obtain ⟨ys, e1, e⟩ := bsome e
    cases e
    obtain ⟨a, vs, rfl, h, q⟩ := r.lst
    exact .lst (.inl (.inl (h.at s))) (toPys_ok s q e1)
  | .ref n, _, _, r, e => by unfold toPy at e; cases e
  | .scr ns, _, _, r, e => by
    unfold toPy at e
    cases e
    obtain ⟨a, rfl, h⟩ := r.scr
    exact .lst (h.seq s) (dpAll_ints ns)
theorem toPys_ok (s : Sim K T W S H) : ∀ {ds : List D} {vs : List V} {ps : List PyData}, Reps K W ds vs → toPys ds = some ps → DpAll K H vs ps
  | [], _, _, r, e => by unfold toPys at e; cases e; rw [r.nil]; exact .nil
  | d :: ds, _, _, r, e => by
    unfold toPys at e
    obtain ⟨y, e1, e⟩ := bsome e
    obtain ⟨ys, e2, e⟩ := bsome e
    cases e
    obtain ⟨v, q, rfl, h1, h2⟩ := r.cons
    exact .cons (toPy_ok s h1 e1) (toPys_ok s h2 e2)
end
theorem asPy_ok (s : Sim K T W S H) {d : D} {v : V} {p : PyData} (r : Rep K W d v) (e : asPy S d = some p) : Dp K H v p := by
  cases d with
  | ref n =>
    obtain ⟨xs, e1, e⟩ := bsome e
    obtain ⟨ys, e2, e⟩ := bsome e
    cases e
    obtain ⟨a, vs, rfl, h, q⟩ := asL_ok (d := .ref n) s r e1
    exact .lst (.inl (.inl h)) (toPys_ok s q e2)
  | _ => exact toPy_ok s r e
end
def dEq : Op2 := fun S x y => (asPy S x).bind fun a => (asPy S y).bind fun b => if (SeqAt.shaped a && SeqAt.shaped b) = true then some (.bl (PyData.eqv a b)) else none
def dNe : Op2 := fun S x y => (asPy S x).bind fun a => (asPy S y).bind fun b => if (SeqAt.shaped a && SeqAt.shaped b) = true then some (.bl (!PyData.eqv a b)) else none
section
variable {K : PySem.W.Frag} {T : List Addr}
theorem ok_eq : Op2Ok K T (rEqD K) dEq := by
  intro W S H x y v u d Q s rx ry e g
  obtain ⟨a, e1, e⟩ := bsome e
  obtain ⟨b, e2, e⟩ := bsome e
  split at e
  · rename_i h
    cases e
    rw [Bool.and_eq_true] at h
    exact ⟨a, b, asPy_ok s rx e1, asPy_ok s ry e2, h.1, h.2, g.here s rep_bl⟩
  · cases e
theorem ok_ne : Op2Ok K T (rNeD K) dNe := by
  intro W S H x y v u d Q s rx ry e g
  obtain ⟨a, e1, e⟩ := bsome e
  obtain ⟨b, e2, e⟩ := bsome e
  split at e
  · rename_i h
    cases e
    rw [Bool.and_eq_true] at h
    exact ⟨a, b, asPy_ok s rx e1, asPy_ok s ry e2, h.1, h.2, g.here s rep_bl⟩
  · cases e
end

/-! ### is None, is True -/
def rIsAny : R2 := fun x y H Q => (y = .non ∧ Q (.bl (decide (x = .non))) H) ∨ rIsB x y H Q
def rNotAny : R2 := fun x y H Q => (y = .non ∧ Q (.bl (!decide (x = .non))) H) ∨ rNotB x y H Q
theorem op_isAny {X : Cx} : OpR X (compareOp .Is) rIsAny := op_isN.or op_isBl
theorem op_notAny {X : Cx} : OpR X (compareOp .IsNot) rNotAny := op_notN.or op_notBl
def isNon : D → Bool
  | .non => true
  | _ => false
def dIs : Op2 := fun _ x y => match x, y with
  | x, .non => some (.bl (isNon x))
  | .bl a, .bl b => some (.bl (a == b))
  | _, _ => none
def dIsNot : Op2 := fun _ x y => match x, y with
  | x, .non => some (.bl (!isNon x))
  | .bl a, .bl b => some (.bl (!(a == b)))
  | _, _ => none
theorem rep_isNon {K : PySem.W.Frag} {W : Wd} {x : D} {v : V} (r : Rep K W x v) : decide (v = .non) = isNon x := by
  cases x with
  | non => rw [r.non]; rfl
  | bl b => rw [r.bl]; rfl
  | int b => rw [r.int]; rfl
  | str b => rw [r.str]; rfl
  | tup b => obtain ⟨a, vs, rfl, _⟩ := r.tup; rfl
  | lst b => obtain ⟨a, vs, rfl, _⟩ := r.lst; rfl
  | ref b => obtain ⟨a, _, rfl⟩ := r.ref; rfl
  | scr b => obtain ⟨a, rfl, _⟩ := r.scr; rfl
theorem bl_dec {a b : Bool} : decide (a = b) = (a == b) := by cases a <;> cases b <;> rfl
theorem ok_is {K : PySem.W.Frag} {T : List Addr} : Op2Ok K T rIsAny dIs := by
  intro W S H x y v u d Q s rx ry e g
  cases y with
  | non =>
    have e : some (D.bl (isNon x)) = some d := by cases x <;> exact e
    cases e
    exact .inl ⟨ry.non, by rw [rep_isNon rx]; exact g.here s rep_bl⟩
  | bl b =>
    cases x with
    | bl a => cases e; exact .inr ⟨a, b, rx.bl, ry.bl, by rw [bl_dec]; exact g.here s rep_bl⟩
    | _ => cases e
  | _ => cases x <;> cases e
theorem ok_isnot {K : PySem.W.Frag} {T : List Addr} : Op2Ok K T rNotAny dIsNot := by
  intro W S H x y v u d Q s rx ry e g
  cases y with
  | non =>
    have e : some (D.bl (!isNon x)) = some d := by cases x <;> exact e
    cases e
    exact .inl ⟨ry.non, by rw [rep_isNon rx]; exact g.here s rep_bl⟩
  | bl b =>
    cases x with
    | bl a => cases e; exact .inr ⟨a, b, rx.bl, ry.bl, by rw [bl_dec]; exact g.here s rep_bl⟩
    | _ => cases e
  | _ => cases x <;> cases e
theorem dIs_non {S : Store} {x : D} : dIs S x .non = some (.bl (isNon x)) := by cases x <;> rfl
theorem dIsNot_non {S : Store} {x : D} : dIsNot S x .non = some (.bl (!isNon x)) := by cases x <;> rfl

/-! ### places, slices, lengths -/
def rIxAny (K : PySem.W.Frag) : R2 := rIx K
def dIx : Op2 := fun S x y => match x, y with
  | .str z, .int i => if z.length ≤ sizeLine then (atI z.cps.toList i).bind fun c => some (.str ⟨#[c]⟩) else none
  | x, .int i => (asQ S x).bind fun xs => atI xs i
  | _, _ => none
theorem atI_reps {K : PySem.W.Frag} {W : Wd} {xs : List D} {vs : List V} {i : Int} {d : D} (r : Reps K W xs vs) (h : atI xs i = some d) : ∃ v, atI vs i = some v ∧ Rep K W d v := by
  unfold atI at h ⊢
  obtain ⟨j, e1, e2⟩ := bsome h
  rw [r.length, e1]
  exact r.get e2
theorem ok_ix {K : PySem.W.Frag} {T : List Addr} : Op2Ok K T (rIx K) dIx := by
  intro W S H x y v u d Q s rx ry e g
  have gen : ∀ i, y = .int i → ((asQ S x).bind fun xs => atI xs i) = some d → rIx K v u H Q := fun i hy e' => by
    subst hy
    obtain ⟨xs, e1, e⟩ := bsome e'
    obtain ⟨a, vs, rfl, h, q⟩ := asQ_ok s rx e1
    obtain ⟨w, hw, rw_⟩ := atI_reps q e
    rcases h with h | h
    · exact .inl ⟨a, vs, i, w, rfl, ry.int, h, hw, g.here s rw_⟩
    · exact .inr (.inl ⟨a, vs, i, w, rfl, ry.int, h, hw, g.here s rw_⟩)
  cases y with
  | int i =>
    cases x with
    | str z =>
      simp only [dIx] at e
      split at e
      · rename_i h
        obtain ⟨c, e1, e⟩ := bsome e
        cases e
        exact .inr (.inr ⟨z, i, c, rx.str, ry.int, h, e1, g.here s rep_str⟩)
      · cases e
    | _ => exact gen i rfl e
  | _ => cases x <;> cases e
theorem dIx_tup {S : Store} {xs : List D} {i : Int} : dIx S (.tup xs) (.int i) = atI xs i := rfl
theorem dIx_lst {S : Store} {xs : List D} {i : Int} : dIx S (.lst xs) (.int i) = atI xs i := rfl
theorem dIx_ref {S : Store} {n : Nat} {i : Int} : dIx S (.ref n) (.int i) = (cellL S n).bind fun xs => atI xs i := rfl

def cutD (xs : List D) (lo hi : Option Int) : List D := (xs.drop (HT.sIx xs.length 0 lo)).take (HT.sIx xs.length xs.length hi - HT.sIx xs.length 0 lo)
theorem cut_reps {K : PySem.W.Frag} {W : Wd} {xs : List D} {vs : List V} (r : Reps K W xs vs) (lo hi : Option Int) : Reps K W (cutD xs lo hi) (cutV vs lo hi) := by
  unfold cutD cutV
  rw [r.length]
  exact (r.drop _).take _
theorem cut_whole (xs : List D) (lo hi : Option Int) (h : HT.sIx xs.length 0 lo = 0 ∧ HT.sIx xs.length xs.length hi = xs.length) : cutD xs lo hi = xs := by
  unfold cutD
  rw [h.1, h.2, Nat.sub_zero, List.drop_zero, List.take_length]
abbrev FO := Slots → Store → Option (Option Int × Store)
def tDO (K : PySem.W.Frag) (T : List Addr) (f : FO) : TO := fun σ H Q => ∃ W S sl r S', Sim K T W S H ∧ RSl K W sl σ ∧ f sl S = some (r, S') ∧ ∀ W' H', W.le W' → Sim K T W' S' H' → Q r H'
def fNo : FO := fun _ S => some (none, S)
def fPart (a : FE) : FO := fun sl S => (a sl S).bind fun p => match p.1 with
  | .int i => some (some i, p.2)
  | _ => none
abbrev DO (X : Cx) (T : List Addr) (e : Option Expr) (f : FO) : Prop := PO X e (tDO X.K T f)
theorem PO.imp {X : Cx} {e : Option Expr} {t t' : TO} (h : PO X e t) (i : ∀ σ H Q, t' σ H Q → t σ H Q) : PO X e t' := ⟨fun pins s σ H Q I q => h.run pins s σ H Q I (i σ H Q q)⟩
def dSl (lo hi : Option Int) : Op1 := fun S x => match x with
  | .tup xs => some (.tup (cutD xs lo hi))
  | .scr ns => some (.lst (cutD (ns.map D.int) lo hi))
  | x => (asL S x).bind fun xs => some (.lst (cutD xs lo hi))
def fSl (a : FE) (lo hi : FO) : FE := fun sl S => (a sl S).bind fun p => (lo sl p.2).bind fun l => (hi sl l.2).bind fun h => (dSl l.1 h.1 h.2 p.1).bind fun d => some (d, h.2)
/-- .. a cell of the store -/
def fSlM (a : FE) (lo hi : FO) : FE := fun sl S => (a sl S).bind fun p => (lo sl p.2).bind fun l => (hi sl l.2).bind fun h => match dSl l.1 h.1 h.2 p.1 with
  | some (.lst xs) => some (.ref h.2.length, h.2 ++ [.lst xs])
  | _ => none
section
variable {X : Cx} {T : List Addr} {e : Expr} {lo hi : Option Expr} {fe : FE} {fl fh : FO} {pos p2 : Pos}
theorem do_no : DO X T none fNo := by
  refine PO.imp po_none fun σ H Q ⟨W, S, sl, d, S', s, q, e, w⟩ => ?_
  cases e
  exact w W H (Wd.le.refl W) s
theorem do_some (h : DE X T e fe) : DO X T (some e) (fPart fe) := by
  refine PO.imp (po_some h) fun σ H Q ⟨W, S, sl, d, S', s, q, e, w⟩ => ?_
  obtain ⟨⟨x, S1⟩, e1, e⟩ := bsome e
  refine tD.mk s q e1 fun W1 H1 v1 l1 s1 r1 => ?_
  cases x with
  | int i => cases e; exact ⟨i, r1.int, w W1 H1 l1 s1⟩
  | _ => cases e
def rSlAny (K : PySem.W.Frag) : V → Option Int → Option Int → Hp → VK → Prop := fun x lo hi H Q => rSlL K x lo hi H Q ∨ rSlA K x lo hi H Q
theorem sl_any : SlR X (rSlAny X.K) := sl_list.or sl_tupA
theorem sl_src {K : PySem.W.Frag} {T : List Addr} {W : Wd} {S : Store} {H : Hp} {x : D} {xs : List D} {v : V} {l h : Option Int} (s : Sim K T W S H) (r : Rep K W x v) (e : dSl l h S x = some (.lst xs)) : ∃ a vs, v = .ref a ∧ SqL K H a vs ∧ Reps K W xs (cutV vs l h) := by
  have gen : ((asL S x).bind fun xs => some (D.lst (cutD xs l h))) = some (.lst xs) → ∃ a vs, v = .ref a ∧ SqL K H a vs ∧ Reps K W xs (cutV vs l h) := fun e => by
    obtain ⟨ys, e1, e⟩ := bsome e
    cases e
    obtain ⟨a, vs, rfl, ha, q⟩ := asL_ok s r e1
    exact ⟨a, vs, rfl, .inl (.inl ha), cut_reps q l h⟩
  cases x with
  | tup xs => cases e
  | scr ns =>
    cases e
    obtain ⟨a, rfl, ha⟩ := r.scr
    exact ⟨a, _, rfl, ha.seq s, cut_reps (reps_ints ns) l h⟩
  | _ => exact gen e
theorem sl_lst {x : D} {d : D} {S : Store} {l h : Option Int} (e : dSl l h S x = some d) : (∃ xs, x = .tup xs ∧ d = .tup (cutD xs l h)) ∨ ∃ xs, d = .lst xs := by
  have gen : ((asL S x).bind fun xs => some (D.lst (cutD xs l h))) = some d → ∃ xs, d = .lst xs := fun e => by
    obtain ⟨ys, e1, e⟩ := bsome e
    cases e
    exact ⟨_, rfl⟩
  cases x with
  | tup xs => cases e; exact .inl ⟨xs, rfl, rfl⟩
  | scr ns => cases e; exact .inr ⟨_, rfl⟩
  | _ => exact .inr (gen e)
theorem sl_ok {K : PySem.W.Frag} {T : List Addr} {W : Wd} {S : Store} {H : Hp} {x d : D} {v : V} {l h : Option Int} {Q : VK} (s : Sim K T W S H) (r : Rep K W x v) (e : dSl l h S x = some d) (g : Got K T W S d Q) : rSlAny K v l h H Q := by
  rcases sl_lst e with ⟨xs, rfl, rfl⟩ | ⟨xs, rfl⟩
  · obtain ⟨a, vs, rfl, ha, q⟩ := r.tup
    refine .inr ⟨a, vs, rfl, ha.seq s, fun z => ?_, fun _ p hp => g.tup s (cut_reps q l h) hp⟩
    rw [q.length] at z
    rw [cut_whole xs l h z] at g
    exact g.here s r
  · obtain ⟨a, vs, rfl, ha, q⟩ := sl_src s r e
    exact .inl ⟨a, vs, rfl, ha, fun p hp => g.lst s q hp⟩
theorem de_sl (he : DE X T e fe) (hl : DO X T lo fl) (hh : DO X T hi fh) : DE X T (.Subscript e (.Slice lo hi none p2) pos) (fSl fe fl fh) := by
  refine PE.imp (pe_slice sl_any he hl hh) fun σ H Q ⟨W, S, sl, d, S', s, q, e, w⟩ => ?_
  obtain ⟨⟨x, S1⟩, e1, e⟩ := bsome e
  obtain ⟨⟨l, S2⟩, e2, e⟩ := bsome e
  obtain ⟨⟨h, S3⟩, e3, e⟩ := bsome e
  obtain ⟨z, e4, e⟩ := bsome e
  cases e
  exact tD.mk s q e1 fun W1 H1 v1 l1 s1 r1 => ⟨W1, _, _, l, S2, s1, q.mono l1, e2, fun W2 H2 l2 s2 => ⟨W2, _, _, h, _, s2, q.mono (l1.trans l2), e3, fun W3 H3 l3 s3 =>
    sl_ok s3 (r1.mono (l2.trans l3)) e4 fun W4 H4 v4 l4 => w W4 H4 v4 (((l1.trans l2).trans l3).trans l4)⟩⟩
theorem de_slM (he : DE X T e fe) (hl : DO X T lo fl) (hh : DO X T hi fh) : DE X T (.Subscript e (.Slice lo hi none p2) pos) (fSlM fe fl fh) := by
  refine PE.imp (pe_slice sl_any he hl hh) fun σ H Q ⟨W, S, sl, d, S', s, q, e, w⟩ => ?_
  obtain ⟨⟨x, S1⟩, e1, e⟩ := bsome e
  obtain ⟨⟨l, S2⟩, e2, e⟩ := bsome e
  obtain ⟨⟨h, S3⟩, e3, e⟩ := bsome e
  cases z : dSl l h S3 x with
  | none => dsimp only at e; rw [z] at e; cases e
  | some y =>
    dsimp only at e
    rw [z] at e
    cases y with
    | lst xs =>
      cases e
      refine tD.mk s q e1 fun W1 H1 v1 l1 s1 r1 => ⟨W1, _, _, l, S2, s1, q.mono l1, e2, fun W2 H2 l2 s2 => ⟨W2, _, _, h, _, s2, q.mono (l1.trans l2), e3, fun W3 H3 l3 s3 => ?_⟩⟩
      obtain ⟨a, vs, rfl, ha, qq⟩ := sl_src s3 (r1.mono (l2.trans l3)) z
      exact .inl ⟨a, vs, rfl, ha, fun p hp => w _ _ _ (((l1.trans l2).trans l3).trans Wd.more_le) (s3.more (c := .lst xs) hp ⟨_, rfl, qq⟩ rfl) (rep_ref s3.more_at)⟩
    | _ => cases e
theorem de_ix {a b : Expr} {fa fb : FE} (ha : DE X T a fa) (hb : DE X T b fb) (hs : PlainIx b := by intro _ _; rfl) : DE X T (.Subscript a b pos) (fOp dIx fa fb) := PE.imp (pe_ix ix_seq ha hb hs) (tD_op ok_ix)
end
end DL

/-! in, order, calls of built-ins over values as trees. -/
namespace DL
open PySem PySem.Spec PyProof.Rows L2

/-! ### in -/
def asPyQ (S : Store) : D → Option (List PyData)
  | .ref n => (cellL S n).bind toPys
  | .lst xs => toPys xs
  | .tup xs => toPys xs
  | .scr ns => some (ns.map PyData.int)
  | _ => none
def isIn (x : PyData) (xs : List PyData) : Bool := xs.any fun y => PyData.eqv y x
def rInAny (K : PySem.W.Frag) (neg : Bool) : R2 := fun x y H Q =>
  (∃ d ds, Dp K H x d ∧ (Dp K H y (.list ds) ∨ Dp K H y (.tuple ds)) ∧ SeqAt.shaped d = true ∧ PyData.canLayAll0 ds = true ∧ Q (.bl (neg ^^ isIn d ds)) H) ∨
  ∃ i j, x = .str i ∧ y = .str j ∧ Q (.bl (neg ^^ !(Builtin.Str.occurrences j i 0 j.length 1).isEmpty)) H
theorem op_inAny {X : Cx} (hu : X.A.units + 65 < cLine) : OpR X (compareOp .In) (rInAny X.K false) := by
  intro pins s σ H x y v u Q I rx ry h
  rcases h with ⟨d, ds, hd, hy, sd, cd, q⟩ | h
  · obtain ⟨as, r1⟩ := Dp.reads I d x v hd rx
    rw [Bool.false_xor] at q
    rcases hy with hy | hy
    · obtain ⟨bs, r2⟩ := Dp.reads I _ y u hy ry
      exact SeqAt.in_list_reads r2 r1 cd (SeqAt.canLay_of_shaped sd) (room_in_shaped sd hu) ⟨.bl _, H, I, rfl, q⟩
    · obtain ⟨bs, r2⟩ := Dp.reads I _ y u hy ry
      exact SeqAt.in_tuple_reads r2 r1 cd (SeqAt.canLay_of_shaped sd) (room_in_shaped sd hu) ⟨.bl _, H, I, rfl, q⟩
  · obtain ⟨i, j, e1, e2, q⟩ := h
    rw [Bool.false_xor] at q
    exact op_in_str pins s σ H x y v u Q I rx ry ⟨i, j, e1, e2, q⟩
theorem op_notInAny {X : Cx} (hu : X.A.units + 65 < cLine) : OpR X (compareOp .NotIn) (rInAny X.K true) := by
  intro pins s σ H x y v u Q I rx ry h
  rcases h with ⟨d, ds, hd, hy, sd, cd, q⟩ | h
  · obtain ⟨as, r1⟩ := Dp.reads I d x v hd rx
    rw [Bool.true_xor] at q
    rcases hy with hy | hy
    · obtain ⟨bs, r2⟩ := Dp.reads I _ y u hy ry
      exact SeqAt.notIn_list_reads r2 r1 cd (SeqAt.canLay_of_shaped sd) (room_in_shaped sd hu) ⟨.bl _, H, I, rfl, q⟩
    · obtain ⟨bs, r2⟩ := Dp.reads I _ y u hy ry
      exact SeqAt.notIn_tuple_reads r2 r1 cd (SeqAt.canLay_of_shaped sd) (room_in_shaped sd hu) ⟨.bl _, H, I, rfl, q⟩
  · obtain ⟨i, j, e1, e2, q⟩ := h
    rw [Bool.true_xor] at q
    exact op_notin_str pins s σ H x y v u Q I rx ry ⟨i, j, e1, e2, q⟩
def strIn (i j : Str) : Bool := !(Builtin.Str.occurrences j i 0 j.length 1).isEmpty
def dInB (neg : Bool) : Op2 := fun S x y => match x, y with
  | .str i, .str j => some (.bl (neg ^^ strIn i j))
  | x, y => (asPy S x).bind fun d => (asPyQ S y).bind fun ds => if (SeqAt.shaped d && PyData.canLayAll0 ds) = true then some (.bl (neg ^^ isIn d ds)) else none
section
variable {K : PySem.W.Frag} {T : List Addr} {W : Wd} {S : Store} {H : Hp}
theorem asPyQ_ok (s : Sim K T W S H) {d : D} {v : V} {ps : List PyData} (r : Rep K W d v) (e : asPyQ S d = some ps) : Dp K H v (.list ps) ∨ Dp K H v (.tuple ps) := by
  cases d with
  | ref n =>
    obtain ⟨xs, e1, e⟩ := bsome e
    obtain ⟨a, vs, rfl, h, q⟩ := asL_ok (d := .ref n) s r e1
    exact .inl (.lst (.inl (.inl h)) (toPys_ok s q e))
  | lst xs =>
    obtain ⟨a, vs, rfl, h, q⟩ := r.lst
    exact .inl (.lst (.inl (.inl (h.at s))) (toPys_ok s q e))
  | tup xs =>
    obtain ⟨a, vs, rfl, h, q⟩ := r.tup
    exact .inr (.tup (h.seq s) (toPys_ok s q e))
  | scr ns =>
    cases e
    obtain ⟨a, rfl, h⟩ := r.scr
    exact .inl (.lst (h.seq s) (dpAll_ints ns))
  | _ => cases e
theorem ok_in (neg : Bool) : Op2Ok K T (rInAny K neg) (dInB neg) := by
  intro W S H x y v u d Q s rx ry e g
  have gen : ((asPy S x).bind fun d => (asPyQ S y).bind fun ds => if (SeqAt.shaped d && PyData.canLayAll0 ds) = true then some (D.bl (neg ^^ isIn d ds)) else none) = some d → rInAny K neg v u H Q := fun e => by
    obtain ⟨a, e1, e⟩ := bsome e
    obtain ⟨b, e2, e⟩ := bsome e
    split at e
    · rename_i h
      cases e
      rw [Bool.and_eq_true] at h
      exact .inl ⟨a, b, asPy_ok s rx e1, asPyQ_ok s ry e2, h.1, h.2, g.here s rep_bl⟩
    · cases e
  cases x with
  | str i =>
    cases y with
    | str j => cases e; exact .inr ⟨i, j, rx.str, ry.str, g.here s rep_bl⟩
    | _ => exact gen e
  | _ => cases y <;> exact gen e
end

/-! ### < of numbers and of data that are alike -/
def dLt : Op2 := fun S x y => match x, y with
  | .int i, .int j => some (.bl (decide (i < j)))
  | x, y => (asPy S x).bind fun a => (asPy S y).bind fun b => match a with
    | .none => none
    | a => if (PySem.W.alike a b && decide (a.depth ≤ 64)) = true then some (.bl (PySem.W.dataLt a b)) else none
def rLtD (K : PySem.W.Frag) : R2 := fun x y H Q => ∃ a b, Dp K H x a ∧ Dp K H y b ∧ PySem.W.alike a b = true ∧ a ≠ .none ∧ a.depth ≤ 64 ∧ Q (.bl (PySem.W.dataLt a b)) H
theorem op_ltD {X : Cx} (hu : X.A.units + 65 < cLine) : OpR X (compareOp .Lt) (rLtD X.K) := by
  intro pins s σ H x y v u Q I rx ry h
  obtain ⟨a, b, ha, hb, al, nn, dp, q⟩ := h
  obtain ⟨as, r1⟩ := Dp.reads I a x v ha rx
  obtain ⟨bs, r2⟩ := Dp.reads I b y u hb ry
  exact PySem.W.rcLt_alike a b X.A s v u as bs r1 r2 al nn (by have := Nat.min_le_left a.depth b.depth; omega) X.prog X.w X.xe _ ⟨.bl _, H, I, rfl, q⟩
def rLtAny (K : PySem.W.Frag) : R2 := fun x y H Q => rI0 (fun i j => .bl (decide (i < j))) x y H Q ∨ rLtD K x y H Q
theorem op_ltAny {X : Cx} (hu : X.A.units + 65 < cLine) : OpR X (compareOp .Lt) (rLtAny X.K) := op_lt.or (op_ltD hu)
theorem ok_lt {K : PySem.W.Frag} {T : List Addr} : Op2Ok K T (rLtAny K) dLt := by
  intro W S H x y v u d Q s rx ry e g
  have gen : ((asPy S x).bind fun a => (asPy S y).bind fun b => match a with
      | .none => none
      | a => if (PySem.W.alike a b && decide (a.depth ≤ 64)) = true then some (D.bl (PySem.W.dataLt a b)) else none) = some d → rLtAny K v u H Q := fun e => by
    obtain ⟨a, e1, e⟩ := bsome e
    obtain ⟨b, e2, e⟩ := bsome e
    have key : a ≠ .none → (if (PySem.W.alike a b && decide (a.depth ≤ 64)) = true then some (D.bl (PySem.W.dataLt a b)) else none) = some d → rLtAny K v u H Q := fun nn e => by
      split at e
      · rename_i h
        cases e
        rw [Bool.and_eq_true] at h
        exact .inr ⟨a, b, asPy_ok s rx e1, asPy_ok s ry e2, h.1, nn, of_decide_eq_true h.2, g.here s rep_bl⟩
      · cases e
    cases a with
    | none => cases e
    | _ => exact key (fun z => by cases z) e
  cases x with
  | int i =>
    cases y with
    | int j => cases e; exact .inl ⟨i, j, rx.int, ry.int, g.here s rep_bl⟩
    | _ => exact gen e
  | _ => cases y <;> exact gen e
abbrev dLe : Op2 := dCmp fun i j => decide (i ≤ j)
abbrev dGt : Op2 := dCmp fun i j => decide (j < i)
abbrev dGe : Op2 := dCmp fun i j => decide (j ≤ i)

/-! ### len, int, list, tuple, max, min, sum, all, any -/
def one (f : Op1) : OpN := fun S xs => match xs with
  | [x] => f S x
  | _ => none
def two (f : Op2) : OpN := fun S xs => match xs with
  | [x, y] => f S x y
  | _ => none
def dLen : Op1 := fun S x => match x with
  | .str s => if s.length ≤ sizeLine then some (.int s.length) else none
  | x => (asQ S x).bind fun xs => some (.int xs.length)
def dInt : Op1 := fun _ x => match x with
  | .int i => some (.int i)
  | .bl k => some (.int (if k then 1 else 0))
  | _ => none
def dList : Op1 := fun S x => (asQ S x).bind fun xs => some (.lst xs)
def dTuple : Op1 := fun S x => (asQ S x).bind fun xs => some (.tup xs)
def dMax2 : Op2 := fun _ x y => match x, y with
  | .int i, .int j => some (.int (if j > i then j else i))
  | _, _ => none
def dMin2 : Op2 := fun _ x y => match x, y with
  | .int i, .int j => some (.int (if j < i then j else i))
  | _, _ => none
section
variable {K : PySem.W.Frag} {T : List Addr}
theorem reps1 {W : Wd} {x : D} {vs : List V} (r : Reps K W [x] vs) : ∃ v, vs = [v] ∧ Rep K W x v := by
  obtain ⟨v, q, rfl, h, t⟩ := r.cons
  rw [t.nil]
  exact ⟨v, rfl, h⟩
theorem reps2 {W : Wd} {x y : D} {vs : List V} (r : Reps K W [x, y] vs) : ∃ v u, vs = [v, u] ∧ Rep K W x v ∧ Rep K W y u := by
  obtain ⟨v, q, rfl, h, t⟩ := r.cons
  obtain ⟨u, rfl, h2⟩ := reps1 t
  exact ⟨v, u, rfl, h, h2⟩
theorem one_ok {f : Op1} {r : List V → Hp → VK → Prop} (h : ∀ W S H x v d Q, Sim K T W S H → Rep K W x v → f S x = some d → Got K T W S d Q → r [v] H Q) : OpNOk K T r (one f) := by
  intro W S H xs vs d Q s rx e g
  match xs, e with
  | [x], e =>
    obtain ⟨v, rfl, q⟩ := reps1 rx
    exact h W S H x v d Q s q e g
theorem two_ok {f : Op2} {r : List V → Hp → VK → Prop} (h : ∀ W S H x y v u d Q, Sim K T W S H → Rep K W x v → Rep K W y u → f S x y = some d → Got K T W S d Q → r [v, u] H Q) : OpNOk K T r (two f) := by
  intro W S H xs vs d Q s rx e g
  match xs, e with
  | [x, y], e =>
    obtain ⟨v, u, rfl, q, q2⟩ := reps2 rx
    exact h W S H x y v u d Q s q q2 e g
theorem ok_len : OpNOk K T (fun xs H Q => ∃ x n, xs = [x] ∧ LenV K x H n ∧ Q (.int n) H) (one dLen) := one_ok fun W S H x v d Q s r e g => by
  have gen : ((asQ S x).bind fun xs => some (D.int xs.length)) = some d → ∃ x n, [v] = [x] ∧ LenV K x H n ∧ Q (.int n) H := fun e => by
    obtain ⟨xs, e1, e⟩ := bsome e
    cases e
    obtain ⟨a, vs, rfl, h, q⟩ := asQ_ok s r e1
    refine ⟨.ref a, xs.length, rfl, ?_, g.here s rep_int⟩
    rcases h with h | h
    · exact .inl ⟨vs, h, q.length.symm⟩
    · exact .inr ⟨vs, h, q.length.symm⟩
  cases x with
  | str z =>
    simp only [dLen] at e
    split at e
    · rename_i h
      cases e
      exact ⟨_, z.length, rfl, by rw [r.str]; exact ⟨h, rfl⟩, g.here s rep_int⟩
    · cases e
  | _ => exact gen e
theorem ok_int : OpNOk K T (fun xs H Q => (∃ i, xs = [.int i] ∧ Q (.int i) H) ∨ ∃ k, xs = [.bl k] ∧ Q (.int (if k then 1 else 0)) H) (one dInt) := one_ok fun W S H x v d Q s r e g => by
  cases x with
  | int i => cases e; exact .inl ⟨i, by rw [r.int], g.here s rep_int⟩
  | bl k => cases e; exact .inr ⟨k, by rw [r.bl], g.here s rep_int⟩
  | _ => cases e
theorem ok_list : OpNOk K T (fun xs H Q => ∃ p ys, xs = [.ref p] ∧ (SqL K H p ys ∨ SqT K H p ys) ∧ ∀ l, H l = none → Q (.ref l) (upd H l (.lst ys))) (one dList) := one_ok fun W S H x v d Q s r e g => by
  obtain ⟨xs, e1, e⟩ := bsome e
  cases e
  obtain ⟨a, vs, rfl, h, q⟩ := asQ_ok s r e1
  exact ⟨a, vs, rfl, h, fun l hl => g.lst s q hl⟩
theorem ok_tuple : OpNOk K T (fun xs H Q => ∃ p ys, xs = [.ref p] ∧ ((SqL K H p ys ∧ ∀ l, H l = none → Q (.ref l) (upd H l (.tup ys))) ∨ (SqT K H p ys ∧ Q (.ref p) H))) (one dTuple) := one_ok fun W S H x v d Q s r e g => by
  obtain ⟨xs, e1, e⟩ := bsome e
  cases e
  have gen : (∀ zs, x ≠ .tup zs) → ∃ a vs, v = .ref a ∧ SqL K H a vs ∧ Reps K W xs vs := fun nt => by
    cases x with
    | tup zs => exact absurd rfl (nt zs)
    | scr ns =>
      cases e1
      obtain ⟨a, rfl, h⟩ := r.scr
      exact ⟨a, _, rfl, h.seq s, reps_ints ns⟩
    | lst zs => obtain ⟨a, vs, rfl, h, q⟩ := asL_ok (d := .lst zs) (xs := xs) s r e1; exact ⟨a, vs, rfl, .inl (.inl h), q⟩
    | ref n => obtain ⟨a, vs, rfl, h, q⟩ := asL_ok (d := .ref n) (xs := xs) s r e1; exact ⟨a, vs, rfl, .inl (.inl h), q⟩
    | _ => cases e1
  cases x with
  | tup zs =>
    cases e1
    obtain ⟨a, vs, rfl, h, q⟩ := r.tup
    exact ⟨a, vs, rfl, .inr ⟨h.seq s, g.here s r⟩⟩
  | _ =>
    obtain ⟨a, vs, rfl, h, q⟩ := gen (fun zs z => by cases z)
    exact ⟨a, vs, rfl, .inl ⟨h, fun l hl => g.tup s q hl⟩⟩
theorem ok_max2 : OpNOk K T (fun xs H Q => ∃ i j, xs = [.int i, .int j] ∧ Q (.int (if j > i then j else i)) H) (two dMax2) := two_ok fun W S H x y v u d Q s r r2 e g => by
  cases x with
  | int i =>
    cases y with
    | int j => cases e; exact ⟨i, j, by rw [r.int, r2.int], g.here s rep_int⟩
    | _ => cases e
  | _ => cases e
theorem ok_min2 : OpNOk K T (fun xs H Q => ∃ i j, xs = [.int i, .int j] ∧ Q (.int (if j < i then j else i)) H) (two dMin2) := two_ok fun W S H x y v u d Q s r r2 e g => by
  cases x with
  | int i =>
    cases y with
    | int j => cases e; exact ⟨i, j, by rw [r.int, r2.int], g.here s rep_int⟩
    | _ => cases e
  | _ => cases e

/-- the ints, the truth values of a list -/
def asInts : List D → Option (List Int)
  | [] => some []
  | .int i :: r => (asInts r).bind fun l => some (i :: l)
  | _ :: _ => none
def asBls : List D → Option (List Bool)
  | [] => some []
  | .bl i :: r => (asBls r).bind fun l => some (i :: l)
  | _ :: _ => none
theorem asInts_some : ∀ {xs : List D} {ns : List Int}, asInts xs = some ns → xs = ns.map D.int
  | [], _, e => by cases e; rfl
  | .int i :: r, _, e => by
    obtain ⟨l, e1, e⟩ := bsome e
    cases e
    rw [asInts_some e1]
    rfl
  | .non :: _, _, e => by cases e
  | .bl _ :: _, _, e => by cases e
  | .str _ :: _, _, e => by cases e
  | .tup _ :: _, _, e => by cases e
  | .lst _ :: _, _, e => by cases e
  | .ref _ :: _, _, e => by cases e
  | .scr _ :: _, _, e => by cases e
theorem bls_some : ∀ {xs : List D} {bs : List Bool}, asBls xs = some bs → xs = bs.map D.bl
  | [], _, e => by cases e; rfl
  | .bl i :: r, _, e => by
    obtain ⟨l, e1, e⟩ := bsome e
    cases e
    rw [bls_some e1]
    rfl
  | .non :: _, _, e => by cases e
  | .int _ :: _, _, e => by cases e
  | .str _ :: _, _, e => by cases e
  | .tup _ :: _, _, e => by cases e
  | .lst _ :: _, _, e => by cases e
  | .ref _ :: _, _, e => by cases e
  | .scr _ :: _, _, e => by cases e
theorem ints_map : ∀ ns : List Int, asInts (ns.map D.int) = some ns
  | [] => rfl
  | n :: ns => by
    show (asInts (ns.map D.int)).bind (fun l => some (n :: l)) = _
    rw [ints_map ns]
    rfl
theorem bls_map : ∀ bs : List Bool, asBls (bs.map D.bl) = some bs
  | [] => rfl
  | n :: ns => by
    show (asBls (ns.map D.bl)).bind (fun l => some (n :: l)) = _
    rw [bls_map ns]
    rfl
theorem Reps.bls {W : Wd} : ∀ {bs : List Bool} {vs : List V}, Reps K W (bs.map D.bl) vs → vs = bs.map V.bl
  | [], _, h => h.nil
  | n :: ns, _, h => by
    obtain ⟨v, r, rfl, q, q2⟩ := h.cons
    rw [q.bl, Reps.bls q2]
    rfl
def dAll : Op1 := fun S x => (asL S x).bind fun xs => (asBls xs).bind fun bs => some (.bl (bs.all id))
def dAny : Op1 := fun S x => (asL S x).bind fun xs => (asBls xs).bind fun bs => some (.bl (bs.any id))
def dSum : Op1 := fun S x => (asL S x).bind fun xs => (asInts xs).bind fun ns => some (.int ns.sum)
theorem ok_all : OpNOk K T (rAll K) (one dAll) := one_ok fun W S H x v d Q s r e g => by
  obtain ⟨xs, e1, e⟩ := bsome e
  obtain ⟨bs, e2, e⟩ := bsome e
  cases e
  obtain ⟨a, vs, rfl, h, q⟩ := asL_ok s r e1
  rw [bls_some e2] at q
  rw [q.bls] at h
  exact ⟨a, bs, rfl, .inl (.inl h), g.here s rep_bl⟩
theorem ok_any : OpNOk K T (rAny K) (one dAny) := one_ok fun W S H x v d Q s r e g => by
  obtain ⟨xs, e1, e⟩ := bsome e
  obtain ⟨bs, e2, e⟩ := bsome e
  cases e
  obtain ⟨a, vs, rfl, h, q⟩ := asL_ok s r e1
  rw [bls_some e2] at q
  rw [q.bls] at h
  exact ⟨a, bs, rfl, .inl (.inl h), g.here s rep_bl⟩
theorem ok_sum : OpNOk K T (rSum K) (one dSum) := one_ok fun W S H x v d Q s r e g => by
  obtain ⟨xs, e1, e⟩ := bsome e
  obtain ⟨ns, e2, e⟩ := bsome e
  cases e
  obtain ⟨a, vs, rfl, h, q⟩ := asL_ok s r e1
  rw [asInts_some e2] at q
  rw [q.ints] at h
  exact ⟨a, ns, rfl, .inl (.inl h), g.here s rep_int⟩
end
/-- list(..) as a cell of the store -/
def fListM (r : FA) : FE := fun sl S => (r sl S).bind fun p => match p.1 with
  | [x] => (asQ p.2 x).bind fun xs => some (.ref p.2.length, p.2 ++ [.lst xs])
  | _ => none
theorem de_listM {X : Cx} {T : List Addr} {pos p : Pos} {e : Expr} {es : List Expr} {fr : FA} (hg : Gl X "list") (hm : X.mg "list" = none) (ha : DA X T (e :: es) fr)
    (he : starEach (e :: es) X.env = (false, eval e X.env) :: starEach es X.env := by rfl) (hpl : (backTo pos (starEach es X.env)).any (·.1) = false := by rfl) : DE X T (.Call (.Name "list" p) (e :: es) [] pos) (fListM fr) := by
  refine PE.imp (pe_callTy call_list_of hg hm boot_list ha (by decide) (by decide) he hpl) fun σ H Q ⟨W, S, sl, d, S', s, q, e, w⟩ => ?_
  obtain ⟨⟨ds, S1⟩, e1, e⟩ := bsome e
  refine tDA.mk s q e1 fun W1 H1 vs l1 s1 r1 => ?_
  match ds, e with
  | [x], e =>
    obtain ⟨xs, e2, e⟩ := bsome e
    cases e
    obtain ⟨v, rfl, rx⟩ := reps1 r1
    obtain ⟨a, ws, rfl, h, qq⟩ := asQ_ok s1 rx e2
    exact ⟨a, ws, rfl, h, fun l hl => w _ _ _ (l1.trans Wd.more_le) (s1.more (c := .lst xs) hl ⟨ws, rfl, qq⟩ rfl) (rep_ref s1.more_at)⟩

/-! ### isinstance -/
def tyD (S : Store) : D → Option String
  | .non => some "NoneType"
  | .bl _ => some "bool"
  | .int _ => some "int"
  | .str _ => some "str"
  | .tup _ => some "tuple"
  | .lst _ => some "list"
  | .scr _ => some "list"
  | .ref n => (cellL S n).bind fun _ => some "list"
def fIsi (c : String) (a : FE) : FE := fun sl S => (a sl S).bind fun p => (tyD p.2 p.1).bind fun t => (kitB t c).bind fun b => some (.bl b, p.2)
theorem tyD_ok {K : PySem.W.Frag} {T : List Addr} {W : Wd} {S : Store} {H : Hp} {d : D} {v : V} {t : String} (s : Sim K T W S H) (r : Rep K W d v) (e : tyD S d = some t) : TyX K H v (.type t) := by
  cases d with
  | non => cases e; rw [r.non]; exact .base .non
  | bl b => cases e; rw [r.bl]; exact .base (.bl b)
  | int b => cases e; rw [r.int]; exact .base (.int b)
  | str b => cases e; rw [r.str]; exact .base (.str b)
  | tup xs =>
    cases e
    obtain ⟨a, vs, rfl, h, q⟩ := r.tup
    rcases h with h | ⟨o, its, n, h1, h2, _⟩
    · exact .base (.tup (s.imm _ _ h))
    · exact .kTuple h1 h2
  | lst xs =>
    cases e
    obtain ⟨a, vs, rfl, h, q⟩ := r.lst
    exact .base (.lst (h.at s))
  | scr ns =>
    cases e
    obtain ⟨a, rfl, h⟩ := r.scr
    rcases h with ⟨o, h⟩ | ⟨o, its, n, h1, h2, _⟩
    · exact .base (.frz (s.imm _ _ h))
    · exact .kList h1 h2
  | ref n =>
    obtain ⟨xs, e1, e⟩ := bsome e
    cases e
    obtain ⟨a, vs, rfl, h, q⟩ := asL_ok (d := .ref n) s r e1
    exact .base (.lst h)
theorem de_isi {X : Cx} {T : List Addr} {pos p pc : Pos} {e : Expr} {fe : FE} {x : Str} {c : String} (hg : Gl X "isinstance") (hm : X.mg "isinstance" = none) (he : DE X T e fe) (hgc : Gl X x) (hmc : X.mg x = none) (hv : bootBuiltins x = some (.type c)) (hn : x ≠ "__name__" := by decide) (hdb : (x == ("__debug__" : Str)) = false := by decide)
    (hs : starEach [e, .Name x pc] X.env = (false, eval e X.env) :: starEach [.Name x pc] X.env := by rfl) (hs2 : starEach [.Name x pc] X.env = (false, eval (.Name x pc) X.env) :: starEach [] X.env := by rfl) (hpl : (backTo pos (starEach [.Name x pc] X.env)).any (·.1) = false := by rfl) :
    DE X T (.Call (.Name "isinstance" p) [e, .Name x pc] [] pos) (fIsi c fe) := by
  have hb : bootBuiltins "isinstance" = some (.builtin "isinstance") := by decide +kernel
  refine PE.imp (pe_callB call_isi hg hm hb (pa_cons he (pa_cons (pe_bltn (v := .ty c) hgc hmc hv rfl hn hdb) pa_nil hs2) hs) (by decide) (by decide) hs hpl) fun σ H Q ⟨W, S, sl, d, S', s, q, e, w⟩ => ?_
  obtain ⟨⟨y, S1⟩, e1, e⟩ := bsome e
  obtain ⟨t, e2, e⟩ := bsome e
  obtain ⟨b, e3, e⟩ := bsome e
  cases e
  exact tD.mk s q e1 fun W1 H1 v1 l1 s1 r1 => ⟨v1, .ty c, .type t, .type c, b, rfl, .ty c, tyD_ok s1 r1 e2, kit_ty e3, w W1 H1 _ l1 s1 rep_bl⟩

/-! ### sorted -/
def pyOf (d : D) : PyData := (toPy d).getD .none
def srtOk (ps : List PyData) : Bool := (ps.all fun a => ps.all fun b => PySem.W.alike a b) && (ps.all fun d => decide (d.depth ≤ 60)) &&
  ((ps.all fun d => match d with | .tuple (_ :: _) => true | _ => false) || (ps.all fun d => match d with | .none => false | .tuple _ => false | _ => true))
def sortD (xs : List D) : List D := xs.mergeSort (PySem.W.dataLe false pyOf)
def dSorted : Op1 := fun S x => (asL S x).bind fun xs => (toPys xs).bind fun ps => if srtOk ps = true then some (.lst (sortD xs)) else none
def rSortedD (K : PySem.W.Frag) : List V → Hp → VK → Prop := fun vs H Q => ∃ (a : Addr) (ws : List V) (bs : List (V × PyData)), vs = [V.ref a] ∧ H a = some (.lst ws) ∧ ws = bs.map (·.1) ∧ (∀ b ∈ bs, Dp K H b.1 b.2) ∧ PySem.W.AllAlike (bs.map (·.2)) ∧ PySem.W.Sortable (bs.map (·.2)) ∧
  (∀ b ∈ bs, b.2.depth ≤ 60) ∧ ∀ p, H p = none → Q (.ref p) (upd H p (.lst ((bs.mergeSort (PySem.W.dataLe false (·.2))).map (·.1))))
theorem each_of_vals : ∀ {bs : List (V × PyData)} {us : List Value}, Vals (bs.map (·.1)) us → PySem.W.EachIs (fun v b => RelV b.1 v) us bs
  | [], _, .nil => .nil
  | _ :: _, _, .cons r t => .cons r (each_of_vals t)
theorem vals_of_each : ∀ {bs : List (V × PyData)} {us : List Value}, PySem.W.EachIs (fun v b => RelV b.1 v) us bs → Vals (bs.map (·.1)) us
  | _, _, .nil => .nil
  | _, _, .cons r t => .cons r (vals_of_each t)
theorem each_imp {α β : Type} {R R' : α → β → Prop} : ∀ {as : List α} {bs : List β}, PySem.W.EachIs R as bs → (∀ a b, b ∈ bs → R a b → R' a b) → PySem.W.EachIs R' as bs
  | _, _, .nil, _ => .nil
  | _, _, .cons r t, f => .cons (f _ _ List.mem_cons_self r) (each_imp t fun a b hb q => f a b (List.mem_cons_of_mem _ hb) q)
theorem cr_sortedD {X : Cx} (hu : X.A.units + 65 < cLine) : CallR X (.builtin "sorted") (rSortedD X.K) := by
  intro pins s σ H vs us Q I r h
  obtain ⟨a, ws, bs, rfl, ha, rfl, hd, al, so, dp, q⟩ := h
  rw [Vals.ref1 r]
  obtain ⟨hz, its, n, rv, e⟩ := I.hok a _ ha
  have ee := each_of_vals rv
  rw [List.length_map] at hz
  refine PySem.W.sorted_data (vs := its) (bs := bs) (enc := (·.2)) (R := fun v b => RelV b.1 v) ⟨_, e, rfl, _, rfl⟩ ee (each_imp ee fun u b hb rb => Dp.reads I b.2 b.1 u (hd b hb) rb) al so hz (fun b hb => by have := dp b hb; omega) fun out hl eo => ?_
  obtain ⟨c, hc⟩ := sortedAll_at s.heap its out.toArray
  have hn : H (s.heap.objs.size + 1) = none := I.hok.fresh (Nat.le_succ _)
  refine ⟨.ref (s.heap.objs.size + 1), _, I.laid (t' := s.toks) (o := .lst ((bs.mergeSort (PySem.W.dataLe false (·.2))).map (·.1))) (fun b o e => sortedAll_old e) (Nat.le_succ _) ⟨?_, out, c, vals_of_each eo, hc⟩, rfl, q _ hn⟩
  rw [List.length_map, List.length_mergeSort]
  exact hz
theorem pyOf_eq {d : D} {p : PyData} (h : toPy d = some p) : pyOf d = p := by unfold pyOf; rw [h]; rfl
/-- values with their representations, sorted together -/
theorem zip_sort {K : PySem.W.Frag} {W : Wd} (le : D → D → Bool) : ∀ (zs : List (V × D)), (∀ z ∈ zs, Rep K W z.2 z.1) → Reps K W ((zs.mergeSort fun a b => le a.2 b.2).map (·.2)) ((zs.mergeSort fun a b => le a.2 b.2).map (·.1)) := by
  have gen : ∀ (zs : List (V × D)), (∀ z ∈ zs, Rep K W z.2 z.1) → Reps K W (zs.map (·.2)) (zs.map (·.1)) := by
    intro zs
    induction zs with
    | nil => intro _; exact reps_nil
    | cons z zs ih => intro h; exact reps_cons (h z List.mem_cons_self) (ih fun y hy => h y (List.mem_cons_of_mem _ hy))
  intro zs h
  exact gen _ fun z hz => h z (List.mem_mergeSort.mp hz)
theorem reps_zip {K : PySem.W.Frag} {W : Wd} : ∀ {ds : List D} {vs : List V}, Reps K W ds vs → ∃ zs : List (V × D), zs.map (·.2) = ds ∧ zs.map (·.1) = vs ∧ ∀ z ∈ zs, Rep K W z.2 z.1
  | [], _, h => ⟨[], rfl, h.nil.symm, fun _ z => nomatch z⟩
  | d :: ds, _, h => by
    obtain ⟨v, r, rfl, q, q2⟩ := h.cons
    obtain ⟨zs, e1, e2, e3⟩ := reps_zip q2
    refine ⟨(v, d) :: zs, by rw [List.map_cons, e1], by rw [List.map_cons, e2], fun z hz => ?_⟩
    rcases List.mem_cons.mp hz with rfl | hz
    · exact q
    · exact e3 z hz
theorem toPys_map : ∀ {ds : List D} {ps : List PyData}, toPys ds = some ps → ps = ds.map pyOf ∧ ∀ d ∈ ds, toPy d = some (pyOf d)
  | [], _, h => by unfold toPys at h; cases h; exact ⟨rfl, fun _ z => nomatch z⟩
  | d :: ds, _, h => by
    unfold toPys at h
    obtain ⟨y, e1, h⟩ := bsome h
    obtain ⟨ys, e2, h⟩ := bsome h
    cases h
    obtain ⟨h1, h2⟩ := toPys_map e2
    refine ⟨by rw [List.map_cons, ← h1, pyOf_eq e1], fun z hz => ?_⟩
    rcases List.mem_cons.mp hz with rfl | hz
    · rw [pyOf_eq e1]; exact e1
    · exact h2 z hz
theorem srtOk_ok {ps : List PyData} (h : srtOk ps = true) : PySem.W.AllAlike ps ∧ PySem.W.Sortable ps ∧ ∀ d ∈ ps, d.depth ≤ 60 := by
  unfold srtOk at h
  rw [Bool.and_eq_true, Bool.and_eq_true] at h
  obtain ⟨⟨h1, h2⟩, h3⟩ := h
  refine ⟨fun d hd d' hd' => List.all_eq_true.mp (List.all_eq_true.mp h1 d hd) d' hd', ?_, fun d hd => of_decide_eq_true (List.all_eq_true.mp h2 d hd)⟩
  rw [Bool.or_eq_true] at h3
  rcases h3 with h3 | h3
  · refine .inl fun d hd => ?_
    have := List.all_eq_true.mp h3 d hd
    cases d with
    | tuple xs =>
      cases xs with
      | nil => cases this
      | cons x r => exact ⟨x, r, rfl⟩
    | _ => cases this
  · refine .inr fun d hd => ?_
    have := List.all_eq_true.mp h3 d hd
    cases d with
    | none => cases this
    | tuple xs => cases this
    | _ => exact ⟨(fun z => by cases z), (fun xs z => by cases z)⟩
theorem ok_sorted {K : PySem.W.Frag} {T : List Addr} : OpNOk K T (rSortedD K) (one dSorted) := one_ok fun W S H x v d Q s r e g => by
  obtain ⟨xs, e1, e⟩ := bsome e
  obtain ⟨ps, e2, e⟩ := bsome e
  split at e
  · rename_i hs
    cases e
    obtain ⟨a, vs, rfl, ha, q⟩ := asL_ok s r e1
    obtain ⟨zs, z1, z2, z3⟩ := reps_zip q
    obtain ⟨m1, m2⟩ := toPys_map e2
    obtain ⟨o1, o2, o3⟩ := srtOk_ok hs
    have eb : (zs.map fun z => (z.1, pyOf z.2)).map (·.2) = ps := by
      rw [m1, ← z1, List.map_map, List.map_map]
      rfl
    have mem : ∀ b ∈ (zs.map fun z => (z.1, pyOf z.2)), ∃ z ∈ zs, b = (z.1, pyOf z.2) := fun b hb => by
      obtain ⟨z, hz, e⟩ := List.mem_map.mp hb
      exact ⟨z, hz, e.symm⟩
    refine ⟨a, vs, zs.map fun z => (z.1, pyOf z.2), rfl, ha, by rw [← z2, List.map_map]; rfl, fun b hb => ?_, by rw [eb]; exact o1, by rw [eb]; exact o2, fun b hb => ?_, fun p hp => ?_⟩
    · obtain ⟨z, hz, rfl⟩ := mem b hb
      exact toPy_ok s (z3 z hz) (m2 z.2 (by rw [← z1]; exact List.mem_map_of_mem hz))
    · exact o3 b.2 (by rw [← eb]; exact List.mem_map_of_mem hb)
    · have k1 : (zs.map fun z => (z.1, pyOf z.2)).mergeSort (PySem.W.dataLe false (·.2)) = (zs.mergeSort fun a b => PySem.W.dataLe false pyOf a.2 b.2).map fun z => (z.1, pyOf z.2) :=
        (List.map_mergeSort (f := fun z : V × D => (z.1, pyOf z.2)) (fun a _ b _ => rfl)).symm
      have k2 : sortD xs = (zs.mergeSort fun a b => PySem.W.dataLe false pyOf a.2 b.2).map (·.2) := by
        unfold sortD
        rw [← z1]
        exact (List.map_mergeSort (f := fun z : V × D => z.2) (fun a _ b _ => rfl)).symm
      rw [k1, List.map_map]
      rw [k2] at g
      exact g.lst s (zip_sort (PySem.W.dataLe false pyOf) zs z3) hp
  · cases e
end DL

/-! Statements, targets, loops, comprehensions, defs and their calls over values as trees. -/
namespace DL
open PySem PySem.Spec PyProof.Rows L2

inductive Fl where
  | nx | bk | ct | ret (d : D)
abbrev FS := Slots → Store → Option (Fl × Slots × Store)
def EndOk (K : PySem.W.Frag) (T : List Addr) (W : Wd) (S : Store) (sl : Slots) (En : Ends) : Fl → Prop
  | .nx => ∀ W' H' σ', W.le W' → Sim K T W' S H' → RSl K W' sl σ' → En.nx σ' H'
  | .bk => ∀ W' H' σ', W.le W' → Sim K T W' S H' → RSl K W' sl σ' → En.bk σ' H'
  | .ct => ∀ W' H' σ', W.le W' → Sim K T W' S H' → RSl K W' sl σ' → En.ct σ' H'
  | .ret d => ∀ W' H' v, W.le W' → Sim K T W' S H' → Rep K W' d v → En.rt v H'
theorem EndOk.mono {K : PySem.W.Frag} {T : List Addr} {W W' : Wd} {S : Store} {sl : Slots} {En : Ends} {fl : Fl} (h : EndOk K T W S sl En fl) (l : W.le W') : EndOk K T W' S sl En fl := by
  cases fl <;> exact fun W2 H2 x l2 => h W2 H2 x (l.trans l2)
def tDS (K : PySem.W.Frag) (T : List Addr) (f : FS) : TS := fun En σ H => ∃ W S sl fl sl' S', Sim K T W S H ∧ RSl K W sl σ ∧ f sl S = some (fl, sl', S') ∧ EndOk K T W S' sl' En fl
abbrev DS (X : Cx) (T : List Addr) (st : Stmt) (f : FS) : Prop := PS X st (tDS X.K T f)
abbrev DSs (X : Cx) (T : List Addr) (st : List Stmt) (f : FS) : Prop := PSs X st (tDS X.K T f)
theorem PS.imp {X : Cx} {e : Stmt} {t t' : TS} (h : PS X e t) (i : ∀ En σ H, t' En σ H → t En σ H) : PS X e t' := ⟨fun pins s σ H En I q => h.run pins s σ H En I (i En σ H q)⟩
theorem PSs.imp {X : Cx} {e : List Stmt} {t t' : TS} (h : PSs X e t) (i : ∀ En σ H, t' En σ H → t En σ H) : PSs X e t' := ⟨fun pins s σ H En I q => h.run pins s σ H En I (i En σ H q)⟩
theorem tDS.mk {K : PySem.W.Frag} {T : List Addr} {W : Wd} {S S' : Store} {H : Hp} {sl sl' : Slots} {σ : L2.St} {f : FS} {fl : Fl} {En : Ends} (a : Sim K T W S H) (b : RSl K W sl σ) (c : f sl S = some (fl, sl', S')) (d : EndOk K T W S' sl' En fl) : tDS K T f En σ H := ⟨W, S, sl, fl, sl', S', a, b, c, d⟩

/-! ### blocks -/
def sNil : FS := fun sl S => some (.nx, sl, S)
def sSeq (f g : FS) : FS := fun sl S => (f sl S).bind fun r => match r with
  | (.nx, sl', S') => g sl' S'
  | r => some r
section
variable {X : Cx} {T : List Addr} {st : Stmt} {rest : List Stmt} {f g : FS} {pos : Pos}
theorem dss_nil : DSs X T [] sNil := by
  refine PSs.imp pss_nil fun En σ H ⟨W, S, sl, fl, sl', S', s, q, e, w⟩ => ?_
  cases e
  exact w W H σ (Wd.le.refl W) s q
theorem dss_cons (h1 : DS X T st f) (h2 : DSs X T rest g) : DSs X T (st :: rest) (sSeq f g) := by
  refine PSs.imp (pss_cons h1 h2) fun En σ H ⟨W, S, sl, fl, sl', S', s, q, e, w⟩ => ?_
  obtain ⟨⟨fl1, sl1, S1⟩, e1, e⟩ := bsome e
  cases fl1 with
  | nx => exact tDS.mk s q e1 fun W1 H1 σ1 l1 s1 q1 => tDS.mk s1 q1 e (w.mono l1)
  | bk => cases e; exact tDS.mk s q e1 w
  | ct => cases e; exact tDS.mk s q e1 w
  | ret d => cases e; exact tDS.mk s q e1 w
theorem dss_one (h1 : DS X T st f) : DSs X T [st] f := pss_one h1
def sPass : FS := fun sl S => some (.nx, sl, S)
def sBreak : FS := fun sl S => some (.bk, sl, S)
def sCont : FS := fun sl S => some (.ct, sl, S)
theorem ds_pass : DS X T (.Pass pos) sPass := by
  refine PS.imp ps_pass fun En σ H ⟨W, S, sl, fl, sl', S', s, q, e, w⟩ => ?_
  cases e
  exact w W H σ (Wd.le.refl W) s q
theorem ds_break : DS X T (.Break pos) sBreak := by
  refine PS.imp ps_break fun En σ H ⟨W, S, sl, fl, sl', S', s, q, e, w⟩ => ?_
  cases e
  exact w W H σ (Wd.le.refl W) s q
theorem ds_continue : DS X T (.Continue pos) sCont := by
  refine PS.imp ps_continue fun En σ H ⟨W, S, sl, fl, sl', S', s, q, e, w⟩ => ?_
  cases e
  exact w W H σ (Wd.le.refl W) s q
end

/-! ### small statements -/
def sExpr (a : FE) : FS := fun sl S => (a sl S).bind fun p => some (.nx, sl, p.2)
def sRet (a : FE) : FS := fun sl S => (a sl S).bind fun p => some (.ret p.1, sl, p.2)
def sRetN : FS := fun sl S => some (.ret .non, sl, S)
/-- return of a list of the store that nobody else holds: it stands still from now on -/
def sRetF (a : FE) : FS := fun sl S => (a sl S).bind fun p => match p.1 with
  | .ref n => (cellL p.2 n).bind fun xs => some (.ret (.lst xs), sl, p.2.set n .dead)
  | d => some (.ret d, sl, p.2)
def sIf (c : FT) (f g : FS) : FS := fun sl S => (c sl S).bind fun p => if p.1 then f sl p.2 else g sl p.2
section
variable {X : Cx} {T : List Addr} {e : Expr} {fe : FE} {pos : Pos}
theorem ds_expr (he : DE X T e fe) (hs : swapsWith e none pos.line X.env = pure false := by rfl) : DS X T (.Expr e pos) (sExpr fe) := by
  refine PS.imp (ps_expr he hs) fun En σ H ⟨W, S, sl, fl, sl', S', s, q, e, w⟩ => ?_
  obtain ⟨⟨d, S1⟩, e1, e⟩ := bsome e
  cases e
  exact tD.mk s q e1 fun W1 H1 v1 l1 s1 r1 => w W1 H1 σ l1 s1 (q.mono l1)
theorem ds_ret (he : DE X T e fe) : DS X T (.Return (some e) pos) (sRet fe) := by
  refine PS.imp (ps_ret he) fun En σ H ⟨W, S, sl, fl, sl', S', s, q, e, w⟩ => ?_
  obtain ⟨⟨d, S1⟩, e1, e⟩ := bsome e
  cases e
  exact tD.mk s q e1 w
theorem ds_retN : DS X T (.Return none pos) sRetN := by
  refine PS.imp ps_retN fun En σ H ⟨W, S, sl, fl, sl', S', s, q, e, w⟩ => ?_
  cases e
  exact w W H .non (Wd.le.refl W) s rep_non
theorem ds_retF (he : DE X T e fe) : DS X T (.Return (some e) pos) (sRetF fe) := by
  refine PS.imp (ps_ret he) fun En σ H ⟨W, S, sl, fl, sl', S', s, q, e, w⟩ => ?_
  obtain ⟨⟨d, S1⟩, e1, e⟩ := bsome e
  cases d with
  | ref n =>
    obtain ⟨xs, e2, e⟩ := bsome e
    cases e
    refine tD.mk s q e1 fun W1 H1 v1 l1 s1 r1 => ?_
    obtain ⟨a, m, rfl⟩ := r1.ref
    have z := cellL_some e2
    obtain ⟨vs, ha, qv⟩ := s1.cell n _ a z m
    obtain ⟨s2, l2⟩ := s1.freeze z m ha
    exact w _ H1 _ (l1.trans l2) s2 (rep_lst Wd.add_at (qv.mono l2))
  | _ => cases e; exact tD.mk s q e1 w
theorem ds_if {c : Expr} {a b : List Stmt} {fc : FT} {f g : FS} (hc : DT X T c fc) (ha : DSs X T a f) (hb : DSs X T b g) : DS X T (.If c a b pos) (sIf fc f g) := by
  refine PS.imp (ps_if hc ha hb) fun En σ H ⟨W, S, sl, fl, sl', S', s, q, e, w⟩ => ?_
  obtain ⟨⟨k, S1⟩, e1, e⟩ := bsome e
  refine tDT.mk s q e1 fun W1 H1 l1 s1 => ?_
  cases k with
  | true => exact iteT (tDS.mk s1 (q.mono l1) e (w.mono l1))
  | false => exact iteF (tDS.mk s1 (q.mono l1) e (w.mono l1))
end

/-! ### targets -/
abbrev GF := D → Slots → Option Slots
abbrev GFs := List D → Slots → Option Slots
def tDG (K : PySem.W.Frag) (T : List Addr) (g : GF) (is : List Nat) : TG := fun v σ H Q => ∃ W S sl d sl', Sim K T W S H ∧ RSl K W sl σ ∧ Rep K W d v ∧ g d sl = some sl' ∧
  ∀ σ', RSl K W sl' σ' → σ'.length = σ.length → (∀ j, j ∉ is → σ'[j]? = σ[j]?) → Q σ' H
def tDGs (K : PySem.W.Frag) (T : List Addr) (g : GFs) (is : List Nat) : TGs := fun vs σ H Q => ∃ W S sl ds sl', Sim K T W S H ∧ RSl K W sl σ ∧ Reps K W ds vs ∧ g ds sl = some sl' ∧
  ∀ σ', RSl K W sl' σ' → σ'.length = σ.length → (∀ j, j ∉ is → σ'[j]? = σ[j]?) → Q σ' H
abbrev DG (X : Cx) (T : List Addr) (e : Expr) (g : GF) (is : List Nat) : Prop := PG X e (tDG X.K T g is)
abbrev DGs (X : Cx) (T : List Addr) (es : List Expr) (g : GFs) (is : List Nat) : Prop := PGs X es (tDGs X.K T g is)
theorem PG.imp {X : Cx} {e : Expr} {t t' : TG} (h : PG X e t) (i : ∀ v σ H Q, t' v σ H Q → t v σ H Q) : PG X e t' := ⟨fun pins s σ H v u Q I r q => h.run pins s σ H v u Q I r (i v σ H Q q)⟩
theorem PGs.imp {X : Cx} {e : List Expr} {t t' : TGs} (h : PGs X e t) (i : ∀ v σ H Q, t' v σ H Q → t v σ H Q) : PGs X e t' := ⟨fun pins s σ H v u Q I r q => h.run pins s σ H v u Q I r (i v σ H Q q)⟩
def gNm (i : Nat) : GF := fun d sl => some (sl.set i (some d))
def gNl : GFs := fun ds sl => match ds with
  | [] => some sl
  | _ => none
def gCs (g : GF) (r : GFs) : GFs := fun ds sl => match ds with
  | d :: ds => (g d sl).bind fun sl' => r ds sl'
  | [] => none
def gTp (n : Nat) (r : GFs) : GF := fun d sl => match d with
  | .tup ds => if ds.length = n then r ds sl else none
  | _ => none
section
variable {X : Cx} {T : List Addr} {pos : Pos}
theorem dg_of {e : Expr} {i : Nat} (h : PG X e (gName i)) : DG X T e (gNm i) [i] := by
  refine PG.imp h fun v σ H Q ⟨W, S, sl, d, sl', s, q, r, e, w⟩ => ?_
  cases e
  exact w _ (q.set i r) (List.length_set) fun j hj => List.getElem?_set_ne (fun z => hj (by rw [z]; exact List.mem_singleton.mpr rfl))
theorem dgs_nil : DGs X T [] gNl [] := by
  refine PGs.imp pgs_nil fun v σ H Q ⟨W, S, sl, ds, sl', s, q, r, e, w⟩ => ?_
  cases ds with
  | nil => cases e; exact ⟨r.nil, w σ q rfl fun _ _ => rfl⟩
  | cons _ _ => cases e
theorem dgs_cons {e : Expr} {es : List Expr} {g : GF} {r : GFs} {is js : List Nat} (h1 : DG X T e g is) (h2 : DGs X T es r js)
    (hs : (assignEach (e :: es) X.env).map (·.2) = assign e X.env :: (assignEach es X.env).map (·.2) := by rfl) : DGs X T (e :: es) (gCs g r) (is ++ js) := by
  refine PGs.imp (pgs_cons h1 h2 hs) fun v σ H Q ⟨W, S, sl, ds, sl', s, q, rr, e, w⟩ => ?_
  cases ds with
  | nil => cases e
  | cons d ds =>
    obtain ⟨sl1, e1, e⟩ := bsome e
    obtain ⟨u, ws, rfl, r1, r2⟩ := rr.cons
    refine ⟨u, ws, rfl, W, S, sl, d, sl1, s, q, r1, e1, fun σ1 q1 k1 n1 => ⟨W, S, sl1, ds, sl', s, q1, r2, e, fun σ2 q2 k2 n2 => w σ2 q2 (k2.trans k1) fun j hj => ?_⟩⟩
    rw [n2 j fun z => hj (List.mem_append_right _ z), n1 j fun z => hj (List.mem_append_left _ z)]
theorem dg_tup {es : List Expr} {k n : Nat} {r : GFs} {is : List Nat} (hc : X.calm = true) (h : DGs X T es r is)
    (hn : (assignEach es X.env).length = n := by rfl) (hst : (assignEach es X.env).findIdx? (·.1) = none := by rfl) : DG X T (.Tuple es k pos) (gTp n r) is := by
  refine PG.imp (pg_tup hc h hn hst) fun v σ H Q ⟨W, S, sl, d, sl', s, q, rr, e, w⟩ => ?_
  cases d with
  | tup ds =>
    simp only [gTp] at e
    split at e
    · rename_i hl
      obtain ⟨a, vs, rfl, ha, qv⟩ := rr.tup
      exact ⟨a, vs, rfl, ha.seq s, by rw [qv.length]; exact hl, W, S, sl, ds, sl', s, q, qv, e, w⟩
    · cases e
  | _ => cases e
def sAsg (a : FE) (g : GF) : FS := fun sl S => (a sl S).bind fun p => (g p.1 sl).bind fun sl' => some (.nx, sl', p.2)
def sSet (i : Nat) (a : FE) : FS := fun sl S => (a sl S).bind fun p => some (.nx, sl.set i (some p.1), p.2)
theorem asg_ok {K : PySem.W.Frag} {fe : FE} {g : GF} {is : List Nat} {tg : TG} (h : ∀ v σ H Q, tDG K T g is v σ H Q → tg v σ H Q) : ∀ En σ H, tDS K T (sAsg fe g) En σ H → tAsg (tD K T fe) tg En σ H := by
  rintro En σ H ⟨W, S, sl, fl, sl', S', s, q, e, w⟩
  obtain ⟨⟨d, S1⟩, e1, e⟩ := bsome e
  obtain ⟨sl1, e2, e⟩ := bsome e
  cases e
  exact tD.mk s q e1 fun W1 H1 v1 l1 s1 r1 => h _ _ _ _ ⟨W1, _, sl, d, _, s1, q.mono l1, r1, e2, fun σ' q' _ _ => w W1 H1 σ' l1 s1 q'⟩
theorem ds_asg {tg e : Expr} {fe : FE} {g : GF} {is : List Nat} (he : DE X T e fe) (hg : DG X T tg g is) (hs : swapsWithSole [tg] e pos.line X.env = pure false := by rfl) (hw : swappedStores [tg] e X.env = pure none := by rfl)
    (h1 : (assignEach [tg] X.env).map (·.2) = [assign tg X.env] := by rfl) : DS X T (.Assign [tg] e pos) (sAsg fe g) := PS.imp (ps_asg he hg hs hw h1) (asg_ok fun _ _ _ _ q => q)
theorem set_ok {K : PySem.W.Frag} {te : TE} {fe : FE} {i : Nat} (h : ∀ σ H Q, tD K T fe σ H Q → te σ H Q) : ∀ En σ H, tDS K T (sSet i fe) En σ H → tAsg te (gName i) En σ H := by
  rintro En σ H ⟨W, S, sl, fl, sl', S', s, q, e, w⟩
  obtain ⟨⟨d, S1⟩, e1, e⟩ := bsome e
  cases e
  exact h _ _ _ (tD.mk s q e1 fun W1 H1 v1 l1 s1 r1 => w W1 H1 _ l1 s1 ((q.mono l1).set i r1))
theorem ds_set {i : Nat} {x : Str} {e : Expr} {fe : FE} {pos' : Pos} (hN : X.N.Nodup) (hi : X.N[i]? = some x) (hx : Loc X.env.scope x) (he : DE X T e fe) (hs : swapsWith e (some (.Name x pos')) pos.line X.env = pure false := by rfl)
    (hf : X.fn x = true ∨ X.env.scope.names.lookup x = some .local := by first | exact .inl rfl | exact .inr rfl | assumption) : DS X T (.Assign [.Name x pos'] e pos) (sSet i fe) := PS.imp (ps_set hN hi hx he hs hf) (set_ok fun _ _ _ q => q)
/-- a, b = e, f with plain local names -/
def sPar (i j : Nat) (a b : FE) : FS := fun sl S => (a sl S).bind fun p => (b sl p.2).bind fun q => some (.nx, (sl.set i (some p.1)).set j (some q.1), q.2)
theorem ds_par {i j : Nat} {x y : Str} {a b : Expr} {fa fb : FE} {px py pt : Pos} {kt k2 : Nat} {pt2 : Pos} (hc : X.calm = true) (hN : X.N.Nodup) (hi : X.N[i]? = some x) (hj : X.N[j]? = some y) (hij : i ≠ j)
    (hx : X.env.scope.names.lookup x = some .local) (hy : X.env.scope.names.lookup y = some .local) (ha : DE X T a fa) (hb : DE X T b fb)
    (hw : swappedStores [.Tuple [.Name x px, .Name y py] kt pt] (.Tuple [a, b] k2 pt2) X.env = pure (some [x, y]))
    (hs : swapsWithSole [.Tuple [.Name x px, .Name y py] kt pt] (.Tuple [a, b] k2 pt2) pos.line X.env = pure false := by rfl)
    (h1 : starEach [a, b] X.env = (false, eval a X.env) :: starEach [b] X.env := by rfl) (h2 : starEach [b] X.env = (false, eval b X.env) :: starEach [] X.env := by rfl) :
    DS X T (.Assign [.Tuple [.Name x px, .Name y py] kt pt] (.Tuple [a, b] k2 pt2) pos) (sPar i j fa fb) := by
  refine PS.imp (ps_par hc hN hi hj hij hx hy (pa_cons ha (pa_cons hb pa_nil h2) h1) hw hs) fun En σ H ⟨W, S, sl, fl, sl', S', s, q, e, w⟩ => ?_
  obtain ⟨⟨d, S1⟩, e1, e⟩ := bsome e
  obtain ⟨⟨d2, S2⟩, e2, e⟩ := bsome e
  cases e
  exact tD.mk s q e1 fun W1 H1 v1 l1 s1 r1 => tD.mk s1 (q.mono l1) e2 fun W2 H2 v2 l2 s2 r2 => ⟨v1, v2, rfl, w W2 H2 _ (l1.trans l2) s2 (((q.mono (l1.trans l2)).set i (r1.mono l2)).set j r2)⟩
def sPar3 (i j l : Nat) (a b c : FE) : FS := fun sl S => (a sl S).bind fun p => (b sl p.2).bind fun q => (c sl q.2).bind fun r => some (.nx, ((sl.set i (some p.1)).set j (some q.1)).set l (some r.1), r.2)
theorem ds_par3 {i j l : Nat} {x y z : Str} {a b c : Expr} {fa fb fc : FE} {px py pz pt : Pos} {kt k2 : Nat} {pt2 : Pos} (hc : X.calm = true) (hN : X.N.Nodup) (hi : X.N[i]? = some x) (hj : X.N[j]? = some y) (hl : X.N[l]? = some z) (hij : i ≠ j) (hil : i ≠ l) (hjl : j ≠ l)
    (hx : X.env.scope.names.lookup x = some .local) (hy : X.env.scope.names.lookup y = some .local) (hz : X.env.scope.names.lookup z = some .local) (ha : DE X T a fa) (hb : DE X T b fb) (hcc : DE X T c fc)
    (hw : swappedStores [.Tuple [.Name x px, .Name y py, .Name z pz] kt pt] (.Tuple [a, b, c] k2 pt2) X.env = pure (some [x, y, z]))
    (hs : swapsWithSole [.Tuple [.Name x px, .Name y py, .Name z pz] kt pt] (.Tuple [a, b, c] k2 pt2) pos.line X.env = pure false := by rfl)
    (h1 : starEach [a, b, c] X.env = (false, eval a X.env) :: starEach [b, c] X.env := by rfl) (h2 : starEach [b, c] X.env = (false, eval b X.env) :: starEach [c] X.env := by rfl) (h3 : starEach [c] X.env = (false, eval c X.env) :: starEach [] X.env := by rfl) :
    DS X T (.Assign [.Tuple [.Name x px, .Name y py, .Name z pz] kt pt] (.Tuple [a, b, c] k2 pt2) pos) (sPar3 i j l fa fb fc) := by
  refine PS.imp (ps_par3 hc hN hi hj hl hij hil hjl hx hy hz (pa_cons ha (pa_cons hb (pa_cons hcc pa_nil h3) h2) h1) hw hs) fun En σ H ⟨W, S, sl, fl, sl', S', s, q, e, w⟩ => ?_
  obtain ⟨⟨d, S1⟩, e1, e⟩ := bsome e
  obtain ⟨⟨d2, S2⟩, e2, e⟩ := bsome e
  obtain ⟨⟨d3, S3⟩, e3, e⟩ := bsome e
  cases e
  exact tD.mk s q e1 fun W1 H1 v1 l1 s1 r1 => tD.mk s1 (q.mono l1) e2 fun W2 H2 v2 l2 s2 r2 => tD.mk s2 (q.mono (l1.trans l2)) e3 fun W3 H3 v3 l3 s3 r3 =>
    ⟨v1, v2, v3, rfl, w W3 H3 _ ((l1.trans l2).trans l3) s3 ((((q.mono ((l1.trans l2).trans l3)).set i (r1.mono (l2.trans l3))).set j (r2.mono l3)).set l r3)⟩
/-- n += e, n -= e of numbers -/
def sAug (i : Nat) (op : Op2) (a : FE) : FS := fun sl S => match sl[i]? with
  | some (some x) => (a sl S).bind fun p => (op p.2 x p.1).bind fun d => some (.nx, sl.set i (some d), p.2)
  | _ => none
theorem ds_aug {i : Nat} {x : Str} {e : Expr} {fe : FE} {o : Operator} {f : Int → Int → Int} {op : Op2} {pos' : Pos} (hN : X.N.Nodup) (hi : X.N[i]? = some x) (hx : Loc X.env.scope x) (he : DE X T e fe) (ho : PIp X o (ipI f)) (hop : ∀ S x y d, op S x y = some d → ∃ i j, x = .int i ∧ y = .int j ∧ d = .int (f i j))
    (hf : X.fn x = true ∨ X.env.scope.names.lookup x = some .local := by first | exact .inl rfl | exact .inr rfl | assumption) : DS X T (.AugAssign (.Name x pos') o e pos) (sAug i op fe) := by
  refine PS.imp (ps_aug hN hi hx he ho hf) fun En σ H ⟨W, S, sl, fl, sl', S', s, q, e, w⟩ => ?_
  unfold sAug at e
  cases z : sl[i]? with
  | none => rw [z] at e; cases e
  | some oo =>
    cases oo with
    | none => rw [z] at e; cases e
    | some xd =>
      rw [z] at e
      obtain ⟨⟨d, S1⟩, e1, e⟩ := bsome e
      obtain ⟨y, e2, e⟩ := bsome e
      cases e
      obtain ⟨v, e3, r⟩ := q.2 i xd z
      refine ⟨v, e3, tD.mk s q e1 fun W1 H1 v1 l1 s1 r1 => ?_⟩
      obtain ⟨a, b, rfl, rfl, rfl⟩ := hop _ _ _ _ e2
      exact ⟨a, b, r.int, r1.int, w W1 H1 _ l1 s1 ((q.mono l1).set i rep_int)⟩
def dAddI : Op2 := fun _ x y => match x, y with
  | .int i, .int j => some (.int (i + j))
  | _, _ => none
theorem dAddI_ok (S : Store) (x y d : D) (h : dAddI S x y = some d) : ∃ i j, x = .int i ∧ y = .int j ∧ d = .int (i + j) := by
  cases x with
  | int i =>
    cases y with
    | int j => cases h; exact ⟨i, j, rfl, rfl, rfl⟩
    | _ => cases h
  | _ => cases h
theorem dSub_ok (S : Store) (x y d : D) (h : dSub S x y = some d) : ∃ i j, x = .int i ∧ y = .int j ∧ d = .int (i - j) := by
  cases x with
  | int i =>
    cases y with
    | int j => cases h; exact ⟨i, j, rfl, rfl, rfl⟩
    | _ => cases h
  | _ => cases h
end

/-! ### what is walked -/
abbrev FI := Slots → Store → Option (List D × Store)
structure ItOk (K : PySem.W.Frag) (T : List Addr) (J : It) (W : Wd) (ds : List D) : Prop where
  go : ∀ i W' S H, i < ds.length → W.ge W' → Sim K T W' S H → J.go i H
  yld : ∀ i W' S H x H', i < ds.length → W.ge W' → Sim K T W' S H → J.yld i H x H' → ∃ W2 d, W'.le W2 ∧ Sim K T W2 S H' ∧ ds[i]? = some d ∧ Rep K W2 d x
  stop : ∀ W' S H, W.ge W' → Sim K T W' S H → J.stop ds.length H
def tDI (K : PySem.W.Frag) (T : List Addr) (f : FI) : TI := fun σ H R => ∃ W S sl ds S', Sim K T W S H ∧ RSl K W sl σ ∧ f sl S = some (ds, S') ∧ ∀ W' H' J, W.le W' → Sim K T W' S' H' → ItOk K T J W' ds → R J H'
abbrev DI (X : Cx) (T : List Addr) (tg e : Expr) (f : FI) : Prop := PI X tg e (tDI X.K T f)
theorem PI.imp {X : Cx} {tg e : Expr} {t t' : TI} (h : PI X tg e t) (i : ∀ σ H R, t' σ H R → t σ H R) : PI X tg e t' := ⟨fun pins s σ H R I q => h.run pins s σ H R I (i σ H R q)⟩
theorem PI.or {X : Cx} {tg e : Expr} {t t' : TI} (h : PI X tg e t) (h' : PI X tg e t') : PI X tg e (fun σ H R => t σ H R ∨ t' σ H R) := ⟨fun pins s σ H R I q => q.elim (h.run pins s σ H R I) (h'.run pins s σ H R I)⟩
/-- a list or tuple that stands still -/
def asS : D → Option (List D)
  | .lst xs => some xs
  | .tup xs => some xs
  | .scr ns => some (ns.map D.int)
  | _ => none
def iSeq (a : FE) : FI := fun sl S => (a sl S).bind fun p => (asS p.1).bind fun ds => some (ds, p.2)
section
variable {K : PySem.W.Frag} {T : List Addr} {W : Wd} {a : Addr} {vs : List V} {ds : List D}
theorem itl_ok (h : ∀ W' S H, W.ge W' → Sim K T W' S H → SqL K H a vs) (r : Reps K W ds vs) (inj : ∀ W' S H ys, W.ge W' → Sim K T W' S H → SqL K H a ys → ys = vs → True) : ItOk K T (Itl K a) W ds where
  go := fun i W' S H hi l s => ⟨vs, _, h W' S H l s, List.getElem?_eq_getElem (by rw [r.length]; exact hi)⟩
  yld := fun i W' S H x H' hi l s y => by
    obtain ⟨rfl, y⟩ := y
    have e := y vs (h W' S _ l s)
    obtain ⟨d, e2, rd⟩ := r.get' e
    exact ⟨W', d, Wd.le.refl W', s, e2, Rep.mong l rd⟩
  stop := fun W' S H l s => ⟨vs, h W' S H l s, by rw [r.length]; exact Nat.le_refl _⟩
theorem itt_ok (h : ∀ W' S H, W.ge W' → Sim K T W' S H → SqT K H a vs) (r : Reps K W ds vs) : ItOk K T (Itt K a) W ds where
  go := fun i W' S H hi l s => ⟨vs, _, h W' S H l s, List.getElem?_eq_getElem (by rw [r.length]; exact hi)⟩
  yld := fun i W' S H x H' hi l s y => by
    obtain ⟨rfl, y⟩ := y
    have e := y vs (h W' S _ l s)
    obtain ⟨d, e2, rd⟩ := r.get' e
    exact ⟨W', d, Wd.le.refl W', s, e2, Rep.mong l rd⟩
  stop := fun W' S H l s => ⟨vs, h W' S H l s, by rw [r.length]; exact Nat.le_refl _⟩
end
section
variable {X : Cx} {T : List Addr} {tg e : Expr} {fe : FE}
theorem di_seq (he : DE X T e fe) : DI X T tg e (iSeq fe) := by
  refine PI.imp (PI.or (pi_list he) (pi_tup he)) fun σ H R ⟨W, S, sl, ds, S', s, q, e, w⟩ => ?_
  obtain ⟨⟨d, S1⟩, e1, e⟩ := bsome e
  obtain ⟨xs, e2, e⟩ := bsome e
  cases e
  cases d with
  | lst ys =>
    cases e2
    refine .inl (tD.mk s q e1 fun W1 H1 v1 l1 s1 r1 => ?_)
    obtain ⟨a, vs, rfl, h, qv⟩ := r1.lst
    exact ⟨a, rfl, ⟨vs, .inl (.inl (h.at s1))⟩, w W1 H1 _ l1 s1 (itl_ok (fun W' S H l s => .inl (.inl ((h.mong l).at s))) qv fun _ _ _ _ _ _ _ _ => trivial)⟩
  | scr ns =>
    cases e2
    refine .inl (tD.mk s q e1 fun W1 H1 v1 l1 s1 r1 => ?_)
    obtain ⟨a, rfl, h⟩ := r1.scr
    exact ⟨a, rfl, ⟨_, h.seq s1⟩, w W1 H1 _ l1 s1 (itl_ok (fun W' S H l s => (h.mong l).seq s) (reps_ints ns) fun _ _ _ _ _ _ _ _ => trivial)⟩
  | tup ys =>
    cases e2
    refine .inr (tD.mk s q e1 fun W1 H1 v1 l1 s1 r1 => ?_)
    obtain ⟨a, vs, rfl, h, qv⟩ := r1.tup
    exact ⟨a, rfl, ⟨vs, h.seq s1⟩, w W1 H1 _ l1 s1 (itt_ok (fun W' S H l s => (h.mong l).seq s) qv)⟩
  | _ => cases e2
/-- range(a), range(a, b) -/
def rng (lo : Int) (n : Nat) : List D := (List.range n).map fun i => D.int (lo + (i : Nat))
theorem rng_get {lo : Int} {n i : Nat} (h : i < n) : (rng lo n)[i]? = some (.int (lo + (i : Nat))) := by
  unfold rng
  rw [List.getElem?_map, List.getElem?_range h]
  rfl
theorem rng_length (lo : Int) (n : Nat) : (rng lo n).length = n := by unfold rng; rw [List.length_map, List.length_range]
theorem itr_ok {K : PySem.W.Frag} {T : List Addr} {W : Wd} (lo : Int) (n : Nat) : ItOk K T (Itr lo n) W (rng lo n) where
  go := fun i W' S H hi l s => by rw [rng_length] at hi; exact hi
  yld := fun i W' S H x H' hi l s y => by
    obtain ⟨rfl, rfl⟩ := y
    rw [rng_length] at hi
    exact ⟨W', _, Wd.le.refl W', s, rng_get hi, rep_int⟩
  stop := fun W' S H l s => by rw [rng_length]; exact Nat.le_refl _
def iRng1 (a : FE) : FI := fun sl S => (a sl S).bind fun p => match p.1 with
  | .int j => if -(2 ^ 62) ≤ j ∧ j < 2 ^ 62 then some (rng 0 j.toNat, p.2) else none
  | _ => none
def iRng2 (a b : FE) : FI := fun sl S => (a sl S).bind fun p => (b sl p.2).bind fun q => match p.1, q.1 with
  | .int i, .int j => if -(2 ^ 62) ≤ i ∧ i < 2 ^ 62 ∧ -(2 ^ 62) ≤ j ∧ j < 2 ^ 62 then some (rng i (j - i).toNat, q.2) else none
  | _, _ => none
theorem di_rng1 {a : Expr} {fa : FE} {p pos : Pos} (hg : Gl X "range") (hm : X.mg "range" = none) (ha : DE X T a fa) (hs : starEach [a] X.env = [(false, eval a X.env)] := by rfl) : DI X T tg (.Call (.Name "range" p) [a] [] pos) (iRng1 fa) := by
  refine PI.imp (pi_range1 hg hm (pa_cons ha pa_nil hs) hs) fun σ H R ⟨W, S, sl, ds, S', s, q, e, w⟩ => ?_
  obtain ⟨⟨d, S1⟩, e1, e⟩ := bsome e
  cases d with
  | int j =>
    dsimp only at e
    split at e
    · rename_i h
      cases e
      exact tD.mk s q e1 fun W1 H1 v1 l1 s1 r1 => ⟨j, by rw [r1.int], h.1, h.2, w W1 H1 _ l1 s1 (itr_ok 0 j.toNat)⟩
    · cases e
  | _ => cases e
theorem di_rng2 {a b : Expr} {fa fb : FE} {p pos : Pos} (hg : Gl X "range") (hm : X.mg "range" = none) (ha : DE X T a fa) (hb : DE X T b fb) (hs : starEach [a, b] X.env = [(false, eval a X.env), (false, eval b X.env)] := by rfl) (hs2 : starEach [b] X.env = [(false, eval b X.env)] := by rfl) :
    DI X T tg (.Call (.Name "range" p) [a, b] [] pos) (iRng2 fa fb) := by
  refine PI.imp (pi_range2 hg hm (pa_cons ha (pa_cons hb pa_nil hs2) (by rw [hs, hs2])) hs hs2) fun σ H R ⟨W, S, sl, ds, S', s, q, e, w⟩ => ?_
  obtain ⟨⟨d, S1⟩, e1, e⟩ := bsome e
  obtain ⟨⟨d2, S2⟩, e2, e⟩ := bsome e
  cases d with
  | int i =>
    cases d2 with
    | int j =>
      dsimp only at e
      split at e
      · rename_i h
        cases e
        exact tD.mk s q e1 fun W1 H1 v1 l1 s1 r1 => tD.mk s1 (q.mono l1) e2 fun W2 H2 v2 l2 s2 r2 => ⟨i, j, by rw [r1.int, r2.int], h, w W2 H2 _ (l1.trans l2) s2 (itr_ok i (j - i).toNat)⟩
      · cases e
    | _ => cases e
  | _ => cases e
/-- zip of two lists, of two tuples -/
def isTup : D → Bool
  | .tup _ => true
  | _ => false
def zipD (xs ys : List D) : List D := (xs.zip ys).map fun p => .tup [p.1, p.2]
def iZp (a b : FE) : FI := fun sl S => (a sl S).bind fun p => (b sl p.2).bind fun q => match p.1, q.1 with
  | .tup xs, .tup ys => some (zipD xs ys, q.2)
  | .lst xs, .lst ys => some (zipD xs ys, q.2)
  | _, _ => none
theorem zipD_length (xs ys : List D) : (zipD xs ys).length = min xs.length ys.length := by unfold zipD; rw [List.length_map, List.length_zip]
theorem zipD_get {xs ys : List D} {i : Nat} {x y : D} (hx : xs[i]? = some x) (hy : ys[i]? = some y) : (zipD xs ys)[i]? = some (.tup [x, y]) := by
  unfold zipD
  rw [List.getElem?_map, List.getElem?_zip_eq_some (z := (x, y)) |>.mpr ⟨hx, hy⟩]
  rfl
theorem zip_yld {K : PySem.W.Frag} {W W' : Wd} {S : Store} {H : Hp} {xs ys : List D} {vs ws : List V} {i : Nat} {t : Addr} {x y : V} (l : W.ge W') (s : Sim K T W' S H) (r : Reps K W xs vs) (r' : Reps K W ys ws) (h : H t = none) (hx : vs[i]? = some x) (hy : ws[i]? = some y) :
    ∃ W2 d, W'.le W2 ∧ Sim K T W2 S (upd H t (.tup [x, y])) ∧ (zipD xs ys)[i]? = some d ∧ Rep K W2 d (.ref t) := by
  obtain ⟨d, e, q⟩ := r.get' hx
  obtain ⟨d', e', q'⟩ := r'.get' hy
  have l2 := Wd.add_le (W := W') (o := .tup [x, y]) (s.none h)
  exact ⟨_, _, l2, s.new h (fun q z => by cases z), zipD_get e e', rep_tup (.inl Wd.add_at) (reps_cons (Rep.mono (Rep.mong l q) l2) (reps_cons (Rep.mono (Rep.mong l q') l2) reps_nil))⟩
theorem itz_ok {K : PySem.W.Frag} {W : Wd} {a b : Addr} {xs ys : List D} {vs ws : List V} (h : ∀ W' S H, W.ge W' → Sim K T W' S H → SqL K H a vs) (h' : ∀ W' S H, W.ge W' → Sim K T W' S H → SqL K H b ws) (r : Reps K W xs vs) (r' : Reps K W ys ws) : ItOk K T (Itz K a b) W (zipD xs ys) where
  go := fun i W' S H hi l s => by
    rw [zipD_length, ← r.length, ← r'.length] at hi
    exact ⟨vs, ws, _, _, h W' S H l s, h' W' S H l s, List.getElem?_eq_getElem (by omega), List.getElem?_eq_getElem (by omega)⟩
  yld := fun i W' S H x H' hi l s y => by
    obtain ⟨t, x, y, rfl, ht, rfl, f, f'⟩ := y
    exact zip_yld l s r r' ht (f vs (h W' S H l s)) (f' ws (h' W' S H l s))
  stop := fun W' S H l s => ⟨vs, ws, h W' S H l s, h' W' S H l s, by rw [zipD_length, r.length, r'.length]; omega⟩
theorem itzT_ok {K : PySem.W.Frag} {W : Wd} {a b : Addr} {xs ys : List D} {vs ws : List V} (h : ∀ W' S H, W.ge W' → Sim K T W' S H → SqT K H a vs) (h' : ∀ W' S H, W.ge W' → Sim K T W' S H → SqT K H b ws) (r : Reps K W xs vs) (r' : Reps K W ys ws) : ItOk K T (RZ.ItzT K a b) W (zipD xs ys) where
  go := fun i W' S H hi l s => by
    rw [zipD_length, ← r.length, ← r'.length] at hi
    exact ⟨vs, ws, _, _, h W' S H l s, h' W' S H l s, List.getElem?_eq_getElem (by omega), List.getElem?_eq_getElem (by omega)⟩
  yld := fun i W' S H x H' hi l s y => by
    obtain ⟨t, x, y, rfl, ht, rfl, f, f'⟩ := y
    exact zip_yld l s r r' ht (f vs (h W' S H l s)) (f' ws (h' W' S H l s))
  stop := fun W' S H l s => ⟨vs, ws, h W' S H l s, h' W' S H l s, by rw [zipD_length, r.length, r'.length]; omega⟩
theorem di_zip {a b : Expr} {fa fb : FE} {p pos tpos : Pos} {elts : List Expr} {kk : Nat} (hg : Gl X "zip") (hm : X.mg "zip" = none) (ha : DE X T a fa) (hb : DE X T b fb)
    (hs : starEach [a, b] X.env = (false, eval a X.env) :: starEach [b] X.env := by rfl) (hs2 : starEach [b] X.env = (false, eval b X.env) :: starEach [] X.env := by rfl) (hpl : (backTo pos (starEach [b] X.env)).any (·.1) = false := by rfl) :
    DI X T (.Tuple elts kk tpos) (.Call (.Name "zip" p) [a, b] [] pos) (iZp fa fb) := by
  refine PI.imp (RZ.pi_zipA hg hm (pa_cons ha (pa_cons hb pa_nil hs2) hs) hs hpl) fun σ H R ⟨W, S, sl, ds, S', s, q, e, w⟩ => ?_
  obtain ⟨⟨d, S1⟩, e1, e⟩ := bsome e
  obtain ⟨⟨d2, S2⟩, e2, e⟩ := bsome e
  refine tD.mk s q e1 fun W1 H1 v1 l1 s1 r1 => tD.mk s1 (q.mono l1) e2 fun W2 H2 v2 l2 s2 r2 => ?_
  cases d with
  | tup xs =>
    cases d2 with
    | tup ys =>
      cases e
      obtain ⟨a, vs, rfl, h, qv⟩ := (r1.mono l2).tup
      obtain ⟨b, ws, rfl, h', qw⟩ := r2.tup
      exact ⟨a, b, vs, ws, rfl, .inr ⟨h.seq s2, h'.seq s2, w W2 H2 _ (l1.trans l2) s2 (itzT_ok (fun W' S H l s => (h.mong l).seq s) (fun W' S H l s => (h'.mong l).seq s) qv qw)⟩⟩
    | _ => cases e
  | lst xs =>
    cases d2 with
    | lst ys =>
      cases e
      obtain ⟨a, vs, rfl, h, qv⟩ := (r1.mono l2).lst
      obtain ⟨b, ws, rfl, h', qw⟩ := r2.lst
      exact ⟨a, b, vs, ws, rfl, .inl ⟨.inl (.inl (h.at s2)), .inl (.inl (h'.at s2)), w W2 H2 _ (l1.trans l2) s2 (itz_ok (fun W' S H l s => .inl (.inl ((h.mong l).at s))) (fun W' S H l s => .inl (.inl ((h'.mong l).at s))) qv qw)⟩⟩
    | _ => cases e
  | _ => cases e
end

/-! ### for -/
def forL (g : GF) (body : FS) : List D → Slots → Store → Option (Fl × Slots × Store)
  | [], sl, S => some (.nx, sl, S)
  | d :: ds, sl, S => (g d sl).bind fun sl1 => (body sl1 S).bind fun r => match r with
    | (.nx, sl', S') => forL g body ds sl' S'
    | (.ct, sl', S') => forL g body ds sl' S'
    | (.bk, sl', S') => some (.nx, sl', S')
    | r => some r
def sFor (f : FI) (g : GF) (body : FS) : FS := fun sl S => (f sl S).bind fun p => forL g body p.1 sl p.2
theorem forL_flow {g : GF} {body : FS} : ∀ {ds : List D} {sl sl' : Slots} {S S' : Store} {fl : Fl}, forL g body ds sl S = some (fl, sl', S') → fl = .nx ∨ ∃ d, fl = .ret d
  | [], _, _, _, _, _, h => by cases h; exact .inl rfl
  | d :: ds, sl, _, S, _, _, h => by
    obtain ⟨sl1, _, h⟩ := bsome h
    obtain ⟨⟨fl1, sl2, S2⟩, _, h⟩ := bsome h
    cases fl1 with
    | nx => exact forL_flow h
    | ct => exact forL_flow h
    | bk => cases h; exact .inl rfl
    | ret d => cases h; exact .inr ⟨d, rfl⟩
section
variable {X : Cx} {T : List Addr} {tg iter : Expr} {body : List Stmt} {fi : FI} {g : GF} {is : List Nat} {fb : FS} {pos : Pos}
theorem for_ok {K : PySem.W.Frag} {wi : TI} {tg : TG} {tb : TS} (hi : ∀ σ H R, tDI K T fi σ H R → wi σ H R) (hg : ∀ v σ H Q, tDG K T g is v σ H Q → tg v σ H Q) (hb : ∀ En σ H, tDS K T fb En σ H → tb En σ H) : ∀ En σ H, tDS K T (sFor fi g fb) En σ H → tFor wi tg tb En σ H := by
  rintro En σ H ⟨W, S, sl, fl, sl', S', s, q, e, w⟩
  obtain ⟨⟨ds, S1⟩, e1, e⟩ := bsome e
  refine hi _ _ _ ⟨W, S, sl, ds, S1, s, q, e1, fun W1 H1 J l1 s1 ok => ?_⟩
  refine ⟨fun i m σ H => ∃ W2 S2 sl2, W1.le W2 ∧ Sim K T W2 S2 H ∧ RSl K W2 sl2 σ ∧ i + m = ds.length ∧ forL g fb (ds.drop i) sl2 S2 = some (fl, sl', S'), ⟨ds.length, W1, S1, sl, Wd.le.refl W1, s1, q.mono l1, Nat.zero_add _, e⟩, ?_⟩
  rintro i m σ H ⟨W2, S2, sl2, l2, s2, q2, hm, e2⟩
  by_cases hlt : i < ds.length
  · refine .inr ⟨ok.go i W2 S2 H hlt l2.toge s2, fun σ' H' => ∃ W2 S2 sl2, W1.le W2 ∧ Sim K T W2 S2 H' ∧ RSl K W2 sl2 σ' ∧ forL g fb (ds.drop (i + 1)) sl2 S2 = some (fl, sl', S'), ?_, fun x H' y => ?_⟩
    · rintro σ' H' ⟨W3, S3, sl3, l3, s3, q3, e3⟩
      exact ⟨m - 1, by omega, W3, S3, sl3, l3, s3, q3, by omega, e3⟩
    · obtain ⟨W3, d, l3, s3, ed, rd⟩ := ok.yld i W2 S2 H x H' hlt l2.toge s2 y
      obtain ⟨h1, h2⟩ := List.getElem?_eq_some_iff.mp ed
      rw [List.drop_eq_getElem_cons hlt, h2] at e2
      obtain ⟨sl3, e3, e2⟩ := bsome e2
      obtain ⟨⟨fl4, sl4, S4⟩, e4, e2⟩ := bsome e2
      refine hg _ _ _ _ ⟨W3, S2, sl2, d, sl3, s3, q2.mono l3, rd, e3, fun σ3 q3 _ _ => hb _ _ _ (tDS.mk s3 q3 e4 ?_)⟩
      have l13 := l2.trans l3
      cases fl4 with
      | nx => exact fun W5 H5 σ5 l5 s5 q5 => ⟨W5, S4, sl4, l13.trans l5, s5, q5, e2⟩
      | ct => exact fun W5 H5 σ5 l5 s5 q5 => ⟨W5, S4, sl4, l13.trans l5, s5, q5, e2⟩
      | bk =>
        cases e2
        exact fun W5 H5 σ5 l5 s5 q5 => w W5 H5 σ5 ((l1.trans l13).trans l5) s5 q5
      | ret d =>
        cases e2
        exact fun W5 H5 v5 l5 s5 r5 => w W5 H5 v5 ((l1.trans l13).trans l5) s5 r5
  · have hi : i = ds.length := by omega
    subst hi
    rw [List.drop_length] at e2
    cases e2
    exact .inl ⟨ok.stop W2 _ H l2.toge s2, w W2 H σ (l1.trans l2) s2 q2⟩
theorem ds_for (hp : PassesOwn (model X.prog X.w) X.A X.env X.xe) (hc : X.calm = true) (hi : DI X T tg iter fi) (hg : DG X T tg g is) (hb : DSs X T body fb)
    (hs : ∀ x, foldedSetIterable iter X.env x = pure x := by intro _; rfl) : DS X T (.For tg iter body [] pos) (sFor fi g fb) :=
  PS.imp (ps_for hp hc hi hg hb hs) (for_ok (fun _ _ _ q => q) (fun _ _ _ _ q => q) fun _ _ _ q => q)
end

/-! ### while -/
def whileL (c : FT) (body : FS) : Nat → Slots → Store → Option (Fl × Slots × Store)
  | 0, _, _ => none
  | n + 1, sl, S => (c sl S).bind fun p => if p.1 then (body sl p.2).bind fun r => match r with
      | (.nx, sl', S') => whileL c body n sl' S'
      | (.ct, sl', S') => whileL c body n sl' S'
      | (.bk, sl', S') => some (.nx, sl', S')
      | r => some r
    else some (.nx, sl, p.2)
def sWhile (n : Nat) (c : FT) (body : FS) : FS := fun sl S => whileL c body n sl S
section
variable {X : Cx} {T : List Addr} {c : Expr} {body : List Stmt} {fc : FT} {fb : FS} {pos : Pos}
theorem ds_while (n : Nat) (hp : PassesOwn (model X.prog X.w) X.A X.env X.xe) (hc : DT X T c fc) (hb : DSs X T body fb) : DS X T (.While c body [] pos) (sWhile n fc fb) := by
  refine PS.imp (ps_while hp hc hb) fun En σ H ⟨W, S, sl, fl, sl', S', s, q, e, w⟩ => ?_
  refine ⟨fun m σ H => ∃ W2 S2 sl2, W.le W2 ∧ Sim X.K T W2 S2 H ∧ RSl X.K W2 sl2 σ ∧ whileL fc fb m sl2 S2 = some (fl, sl', S'), ⟨n, W, S, sl, Wd.le.refl W, s, q, e⟩, ?_⟩
  rintro m σ H ⟨W2, S2, sl2, l2, s2, q2, e2⟩
  cases m with
  | zero => cases e2
  | succ m =>
    obtain ⟨⟨k, S3⟩, e3, e2⟩ := bsome e2
    refine tDT.mk s2 q2 e3 fun W3 H3 l3 s3 => ?_
    cases k with
    | false =>
      cases e2
      exact iteF (w W3 H3 σ (l2.trans l3) s3 (q2.mono l3))
    | true =>
      obtain ⟨⟨fl4, sl4, S4⟩, e4, e2⟩ := bsome e2
      refine iteT ⟨fun σ' H' => ∃ W2 S2 sl2, W.le W2 ∧ Sim X.K T W2 S2 H' ∧ RSl X.K W2 sl2 σ' ∧ whileL fc fb m sl2 S2 = some (fl, sl', S'), fun σ' H' h => ⟨m, Nat.lt_succ_self m, h⟩, tDS.mk s3 (q2.mono l3) e4 ?_⟩
      have l23 := l2.trans l3
      cases fl4 with
      | nx => exact fun W5 H5 σ5 l5 s5 q5 => ⟨W5, S4, sl4, l23.trans l5, s5, q5, e2⟩
      | ct => exact fun W5 H5 σ5 l5 s5 q5 => ⟨W5, S4, sl4, l23.trans l5, s5, q5, e2⟩
      | bk =>
        cases e2
        exact fun W5 H5 σ5 l5 s5 q5 => w W5 H5 σ5 (l23.trans l5) s5 q5
      | ret d =>
        cases e2
        exact fun W5 H5 v5 l5 s5 r5 => w W5 H5 v5 (l23.trans l5) s5 r5
end

/-! ### list comprehensions -/
def wipeD (sl : Slots) : List Nat → Slots
  | [] => sl
  | v :: vs => (wipeD sl vs).set v none
theorem wipe_reps {K : PySem.W.Frag} {W : Wd} {sl : Slots} {σ : L2.St} (q : RSl K W sl σ) : ∀ vs : List Nat, RSl K W (wipeD sl vs) (wipe σ vs)
  | [] => q
  | v :: vs => by
    obtain ⟨h1, h2⟩ := wipe_reps q vs
    unfold wipeD wipe
    refine ⟨by rw [List.length_set, List.length_set]; exact h1, fun i d e => ?_⟩
    by_cases hi : v = i
    · subst hi
      have hv : v < (wipeD sl vs).length := by
        have := (List.getElem?_eq_some_iff.mp e).1
        rwa [List.length_set] at this
      rw [List.getElem?_set_self hv] at e
      cases e
    · rw [List.getElem?_set_ne hi] at e
      obtain ⟨x, e', r⟩ := h2 i d e
      exact ⟨x, by rw [List.getElem?_set_ne hi]; exact e', r⟩
theorem wipe_get {σ : L2.St} {i : Nat} : ∀ {vs : List Nat}, (wipe σ vs)[i]? = if i ∈ vs ∧ i < σ.length then some none else σ[i]?
  | [] => by simp [wipe]
  | v :: vs => by
    unfold wipe
    have ih := wipe_get (σ := σ) (i := i) (vs := vs)
    have hl := wipe_length σ vs
    by_cases hi : v = i
    · subst hi
      by_cases hv : v < σ.length
      · rw [List.getElem?_set_self (by rw [hl]; exact hv)]
        simp [hv]
      · rw [List.getElem?_eq_none (by rw [List.length_set, hl]; omega)]
        simp [hv]
    · rw [List.getElem?_set_ne hi, ih]
      have hi' : ¬ i = v := fun z => hi z.symm
      simp [hi']
theorem wipe_same {σ σ' : L2.St} {vs : List Nat} (hl : σ'.length = σ.length) (h : ∀ j, j ∉ vs → σ'[j]? = σ[j]?) : wipe σ' vs = wipe σ vs := by
  apply List.ext_getElem?
  intro i
  rw [wipe_get, wipe_get, hl]
  by_cases hi : i ∈ vs
  · by_cases hlt : i < σ.length
    · simp [hi, hlt]
    · have h1 : σ'[i]? = none := List.getElem?_eq_none (by omega)
      have h2 : σ[i]? = none := List.getElem?_eq_none (by omega)
      simp [hlt, h1, h2]
  · simp [hi]
    exact h i hi
theorem wipe_wipe (σ : L2.St) (vs : List Nat) : wipe (wipe σ vs) vs = wipe σ vs := by
  apply wipe_same (wipe_length σ vs)
  intro j hj
  rw [wipe_get]
  simp [hj]
def lcL (g : GF) (t : FT) (fe : FE) : List D → Slots → Store → Option (List D × Store)
  | [], _, S => some ([], S)
  | d :: ds, sl, S => (g d sl).bind fun sl1 => (t sl1 S).bind fun p => if p.1 then (fe sl1 p.2).bind fun q => (lcL g t fe ds sl q.2).bind fun r => some (q.1 :: r.1, r.2) else lcL g t fe ds sl p.2
def fLc (f : FI) (g : GF) (t : FT) (fe : FE) (vs : List Nat) : FE := fun sl S => (f sl S).bind fun p => (lcL g t fe p.1 (wipeD sl vs) p.2).bind fun r => if r.1.length ≤ sizeLine then some (.lst r.1, r.2) else none
/-- .. the list is a cell of the store -/
def fLcM (f : FI) (g : GF) (t : FT) (fe : FE) (vs : List Nat) : FE := fun sl S => (f sl S).bind fun p => (lcL g t fe p.1 (wipeD sl vs) p.2).bind fun r => if r.1.length ≤ sizeLine then some (.ref r.2.length, r.2 ++ [.lst r.1]) else none
def fYes : FT := fun _ S => some (true, S)
abbrev DTs (X : Cx) (T : List Addr) (ifs : List Expr) (f : FT) : Prop := PTs X ifs (tDT X.K T f)
section
variable {X : Cx} {T : List Addr} {K : PySem.W.Frag}
theorem PTs.imp {X : Cx} {e : List Expr} {t t' : TT} (h : PTs X e t) (i : ∀ σ H Q, t' σ H Q → t σ H Q) : PTs X e t' := ⟨fun pins s σ H Q I q => h.run pins s σ H Q I (i σ H Q q)⟩
theorem dts_nil : DTs X T [] fYes := by
  refine PTs.imp pts_nil fun σ H Q ⟨W, S, sl, r, S', s, q, e, w⟩ => ?_
  cases e
  exact w W H (Wd.le.refl W) s
theorem dts_one {c : Expr} {f : FT} (h : DT X T c f) : DTs X T [c] f := pts_one h
/-- the end of a comprehension: what is wanted of the list's place, from the world with the pin -/
theorem lc_ok {fi : FI} {g : GF} {is vs : List Nat} {t : FT} {fe : FE} {wi : TI} {tg : TG} {tt : TT} {te : TE} (hv : ∀ i ∈ is, i ∈ vs) (hi : ∀ σ H R, tDI K T fi σ H R → wi σ H R) (hg : ∀ v σ H Q, tDG K T g is v σ H Q → tg v σ H Q)
    (ht : ∀ σ H Q, tDT K T t σ H Q → tt σ H Q) (he : ∀ σ H Q, tD K T fe σ H Q → te σ H Q) {W : Wd} {S S' : Store} {sl : Slots} {σ : L2.St} {H : Hp} {Q : VK} {rs : List D} (s : Sim K T W S H) (q : RSl K W sl σ)
    (e : ((fi sl S).bind fun p => lcL g t fe p.1 (wipeD sl vs) p.2) = some (rs, S')) (hl : rs.length ≤ sizeLine)
    (w : ∀ W' H' D ws, W.ge W' → W'.pin = upd W.pin D (.lst ws) → W.pin D = none → Sim K T W' S' H' → Reps K W' rs ws → Q (.ref D) H') : tLc wi tg tt te vs σ H Q := by
  obtain ⟨⟨ds, S1⟩, e1, e⟩ := bsome e
  refine hi _ _ _ ⟨W, S, sl, ds, S1, s, q, e1, fun W1 H1 J l1 s1 ok => fun D hD => ?_⟩
  have pD := s1.nopin hD
  refine ⟨fun i m H => ∃ W2 S2 ws os more, W1.ge W2 ∧ W2.pin = upd W1.pin D (.lst ws) ∧ Sim K T W2 S2 H ∧ Reps K W2 os ws ∧ i + m = ds.length ∧ lcL g t fe (ds.drop i) (wipeD sl vs) S2 = some (more, S') ∧ rs = os ++ more,
    ⟨ds.length, W1.pinned D (.lst []), S1, [], [], rs, Wd.pinned_ge, rfl, s1.pinNew hD (fun q z => by cases z), reps_nil, Nat.zero_add _, e, rfl⟩, ?_⟩
  rintro i m H ⟨W2, S2, ws, os, more, l2, p2, s2, q2, hm, e2, er⟩
  by_cases hlt : i < ds.length
  · refine .inr ⟨ok.go i W2 S2 H hlt l2 s2, fun H' => ∃ W2 S2 ws os more, W1.ge W2 ∧ W2.pin = upd W1.pin D (.lst ws) ∧ Sim K T W2 S2 H' ∧ Reps K W2 os ws ∧ lcL g t fe (ds.drop (i + 1)) (wipeD sl vs) S2 = some (more, S') ∧ rs = os ++ more, ?_, fun x H' y => ?_⟩
    · rintro H' ⟨W3, S3, ws3, os3, more3, l3, p3, s3, q3, e3, er3⟩
      exact ⟨m - 1, by omega, W3, S3, ws3, os3, more3, l3, p3, s3, q3, by omega, e3, er3⟩
    · obtain ⟨W3, d, l3, s3, ed, rd⟩ := ok.yld i W2 S2 H x H' hlt l2 s2 y
      obtain ⟨h1, h2⟩ := List.getElem?_eq_some_iff.mp ed
      rw [List.drop_eq_getElem_cons hlt, h2] at e2
      obtain ⟨sl3, e3, e2⟩ := bsome e2
      obtain ⟨⟨k, S4⟩, e4, e2⟩ := bsome e2
      have qw : RSl K W3 (wipeD sl vs) (wipe σ vs) := wipe_reps (RSl.mong (RSl.mong (q.mono l1) l2) l3.toge) vs
      refine hg _ _ _ _ ⟨W3, S2, _, d, sl3, s3, qw, rd, e3, fun σ3 q3 hl3 hn3 => ⟨?_, ht _ _ _ (tDT.mk s3 q3 e4 fun W4 H4 l4 s4 => ?_)⟩⟩
      · rw [wipe_same hl3 fun j hj => hn3 j fun z => hj (hv j z), wipe_wipe]
      · have p4 : W4.pin = upd W1.pin D (.lst ws) := (l4.pin.trans l3.pin).trans p2
        cases k with
        | false => exact iteF ⟨W4, S4, ws, os, more, l2.trans (l3.trans l4).toge, p4, s4, q2.mono (l3.trans l4), e2, er⟩
        | true =>
          obtain ⟨⟨y, S5⟩, e5, e2⟩ := bsome e2
          obtain ⟨⟨more5, S6⟩, e6, e2⟩ := bsome e2
          cases e2
          refine iteT (he _ _ _ (tD.mk s4 (q3.mono l4) e5 fun W5 H5 v5 l5 s5 r5 => ?_))
          have p5 : W5.pin = upd W1.pin D (.lst ws) := l5.pin.trans p4
          have pd : W5.pin D = some (.lst ws) := by rw [p5]; exact upd_same
          have l35 := (l3.trans l4).trans l5
          refine ⟨ws, (s5.pn D _ pd).1, ?_, W5.pinned D (.lst (ws ++ [v5])), S5, ws ++ [v5], os ++ [y], more5, l2.trans (l35.toge.trans Wd.pinned_ge), ?_, s5.pinPut pd (fun q z => by cases z), ?_, e6, ?_⟩
          · rw [q2.length]
            rw [er, List.length_append, List.length_cons] at hl
            omega
          · show upd W5.pin D _ = _
            rw [p5, upd_upd]
          · exact Reps.mong Wd.pinned_ge ((q2.mono l35).append (reps_cons r5 reps_nil))
          · rw [er, List.append_assoc]
            rfl
  · have hi : i = ds.length := by omega
    subst hi
    rw [List.drop_length] at e2
    cases e2
    rw [List.append_nil] at er
    subst er
    refine .inl ⟨ok.stop W2 _ H l2 s2, w W2 H D ws (l1.toge.trans l2) ?_ ?_ s2 q2⟩
    · rw [p2, l1.pin]
    · rw [← l1.pin]; exact pD
theorem de_lc {elt tgt iter : Expr} {ifs : List Expr} {scope : Scope} {own : List (Str × Nat)} {pos : Pos} {fi : FI} {g : GF} {is : List Nat} {t : FT} {fe : FE} (hc : X.calm = true) (hN : X.N.Nodup) (hi : DI X T tgt iter fi) (ok : BlkOk X.N X.env.scope scope own) (hv : ∀ i ∈ is, i ∈ own.map (·.2))
    (hg : ∀ (s : Shared) (H : Hp) (C : Addr) (cl : List (Str × Addr)) (fp : List Addr), DG (X.blk s H scope (compEnvC scope cl C X.env) fp) T tgt g is) (ht : ∀ (s : Shared) (H : Hp) (C : Addr) (cl : List (Str × Addr)) (fp : List Addr), DTs (X.blk s H scope (compEnvC scope cl C X.env) fp) T ifs t)
    (he : ∀ (s : Shared) (H : Hp) (C : Addr) (cl : List (Str × Addr)) (fp : List Addr), DE (X.blk s H scope (compEnvC scope cl C X.env) fp) T elt fe) (hs : ∀ x, foldedSetIterable iter X.env x = pure x := by intro _; rfl) :
    DE X T (.ListComp elt [⟨tgt, iter, ifs, 0⟩] scope pos) (fLc fi g t fe (own.map (·.2))) := by
  refine PE.imp (pe_lc (wi := tDI X.K T fi) (g := tDG X.K T g is) (tt := tDT X.K T t) (te := tD X.K T fe) hc hN hi ok hg ht he hs) fun σ H Q ⟨W, S, sl, d, S', s, q, e, w⟩ => ?_
  obtain ⟨⟨ds, S1⟩, e1, e⟩ := bsome e
  obtain ⟨⟨rs, S2⟩, e2, e⟩ := bsome e
  dsimp only at e
  split at e
  · rename_i hl
    cases e
    refine lc_ok (fi := fi) (K := X.K) (T := T) hv (fun _ _ _ q => q) (fun _ _ _ _ q => q) (fun _ _ _ q => q) (fun _ _ _ q => q) s q (by rw [e1]; exact e2) hl fun W' H' D ws l p hn s' r' => ?_
    obtain ⟨s2, l2⟩ := s'.pinStill p hn
    exact w _ H' _ ⟨l.trans l2, rfl⟩ s2 (rep_lst upd_same (Reps.mong l2 r'))
  · cases e
theorem de_lcM {elt tgt iter : Expr} {ifs : List Expr} {scope : Scope} {own : List (Str × Nat)} {pos : Pos} {fi : FI} {g : GF} {is : List Nat} {t : FT} {fe : FE} (hc : X.calm = true) (hN : X.N.Nodup) (hi : DI X T tgt iter fi) (ok : BlkOk X.N X.env.scope scope own) (hv : ∀ i ∈ is, i ∈ own.map (·.2))
    (hg : ∀ (s : Shared) (H : Hp) (C : Addr) (cl : List (Str × Addr)) (fp : List Addr), DG (X.blk s H scope (compEnvC scope cl C X.env) fp) T tgt g is) (ht : ∀ (s : Shared) (H : Hp) (C : Addr) (cl : List (Str × Addr)) (fp : List Addr), DTs (X.blk s H scope (compEnvC scope cl C X.env) fp) T ifs t)
    (he : ∀ (s : Shared) (H : Hp) (C : Addr) (cl : List (Str × Addr)) (fp : List Addr), DE (X.blk s H scope (compEnvC scope cl C X.env) fp) T elt fe) (hs : ∀ x, foldedSetIterable iter X.env x = pure x := by intro _; rfl) :
    DE X T (.ListComp elt [⟨tgt, iter, ifs, 0⟩] scope pos) (fLcM fi g t fe (own.map (·.2))) := by
  refine PE.imp (pe_lc (wi := tDI X.K T fi) (g := tDG X.K T g is) (tt := tDT X.K T t) (te := tD X.K T fe) hc hN hi ok hg ht he hs) fun σ H Q ⟨W, S, sl, d, S', s, q, e, w⟩ => ?_
  obtain ⟨⟨ds, S1⟩, e1, e⟩ := bsome e
  obtain ⟨⟨rs, S2⟩, e2, e⟩ := bsome e
  dsimp only at e
  split at e
  · rename_i hl
    cases e
    refine lc_ok (fi := fi) (K := X.K) (T := T) hv (fun _ _ _ q => q) (fun _ _ _ _ q => q) (fun _ _ _ q => q) (fun _ _ _ q => q) s q (by rw [e1]; exact e2) hl fun W' H' D ws l p hn s' r' => ?_
    obtain ⟨s2, l2⟩ := s'.pinCell p hn r'
    exact w _ H' _ ⟨l.trans l2, rfl⟩ s2 (rep_ref s'.more_at)
  · cases e
/-- y = [..] on one line, y a local name that nothing captures -/
theorem ds_setLc {i : Nat} {y : Str} {py : Pos} {elt tgt iter : Expr} {ifs : List Expr} {scope : Scope} {own : List (Str × Nat)} {pos spos : Pos} {fi : FI} {g : GF} {is : List Nat} {t : FT} {fe : FE} (hc : X.calm = true) (hN : X.N.Nodup) (hy : X.N[i]? = some y) (hyl : X.env.scope.names.lookup y = some .local)
    (hsw : swapsWith (.ListComp elt [⟨tgt, iter, ifs, 0⟩] scope pos) (some (.Name y py)) spos.line X.env = pure true) (hi : DI X T tgt iter fi) (ok : BlkOk X.N X.env.scope scope own) (hv : ∀ i ∈ is, i ∈ own.map (·.2))
    (hg : ∀ (s : Shared) (H : Hp) (C : Addr) (cl : List (Str × Addr)) (fp : List Addr), DG (X.blk s H scope (compEnvC scope cl C X.env) fp) T tgt g is) (ht : ∀ (s : Shared) (H : Hp) (C : Addr) (cl : List (Str × Addr)) (fp : List Addr), DTs (X.blk s H scope (compEnvC scope cl C X.env) fp) T ifs t)
    (he : ∀ (s : Shared) (H : Hp) (C : Addr) (cl : List (Str × Addr)) (fp : List Addr), DE (X.blk s H scope (compEnvC scope cl C X.env) fp) T elt fe) (hs : ∀ x, foldedSetIterable iter X.env x = pure x := by intro _; rfl) :
    DS X T (.Assign [.Name y py] (.ListComp elt [⟨tgt, iter, ifs, 0⟩] scope pos) spos) (sSet i (fLc fi g t fe (own.map (·.2)))) := by
  refine PS.imp (ps_setLc (wi := tDI X.K T fi) (g := tDG X.K T g is) (tt := tDT X.K T t) (te := tD X.K T fe) hc hN hy hyl hsw hi ok hg ht he hs) (set_ok fun σ H Q ⟨W, S, sl, d, S', s, q, e, w⟩ => ?_)
  obtain ⟨⟨ds, S1⟩, e1, e⟩ := bsome e
  obtain ⟨⟨rs, S2⟩, e2, e⟩ := bsome e
  dsimp only at e
  split at e
  · rename_i hl
    cases e
    refine lc_ok (fi := fi) (K := X.K) (T := T) hv (fun _ _ _ q => q) (fun _ _ _ _ q => q) (fun _ _ _ q => q) (fun _ _ _ q => q) s q (by rw [e1]; exact e2) hl fun W' H' D ws l p hn s' r' => ?_
    obtain ⟨s2, l2⟩ := s'.pinStill p hn
    exact w _ H' _ ⟨l.trans l2, rfl⟩ s2 (rep_lst upd_same (Reps.mong l2 r'))
  · cases e
theorem ds_setLcM {i : Nat} {y : Str} {py : Pos} {elt tgt iter : Expr} {ifs : List Expr} {scope : Scope} {own : List (Str × Nat)} {pos spos : Pos} {fi : FI} {g : GF} {is : List Nat} {t : FT} {fe : FE} (hc : X.calm = true) (hN : X.N.Nodup) (hy : X.N[i]? = some y) (hyl : X.env.scope.names.lookup y = some .local)
    (hsw : swapsWith (.ListComp elt [⟨tgt, iter, ifs, 0⟩] scope pos) (some (.Name y py)) spos.line X.env = pure true) (hi : DI X T tgt iter fi) (ok : BlkOk X.N X.env.scope scope own) (hv : ∀ i ∈ is, i ∈ own.map (·.2))
    (hg : ∀ (s : Shared) (H : Hp) (C : Addr) (cl : List (Str × Addr)) (fp : List Addr), DG (X.blk s H scope (compEnvC scope cl C X.env) fp) T tgt g is) (ht : ∀ (s : Shared) (H : Hp) (C : Addr) (cl : List (Str × Addr)) (fp : List Addr), DTs (X.blk s H scope (compEnvC scope cl C X.env) fp) T ifs t)
    (he : ∀ (s : Shared) (H : Hp) (C : Addr) (cl : List (Str × Addr)) (fp : List Addr), DE (X.blk s H scope (compEnvC scope cl C X.env) fp) T elt fe) (hs : ∀ x, foldedSetIterable iter X.env x = pure x := by intro _; rfl) :
    DS X T (.Assign [.Name y py] (.ListComp elt [⟨tgt, iter, ifs, 0⟩] scope pos) spos) (sSet i (fLcM fi g t fe (own.map (·.2)))) := by
  refine PS.imp (ps_setLc (wi := tDI X.K T fi) (g := tDG X.K T g is) (tt := tDT X.K T t) (te := tD X.K T fe) hc hN hy hyl hsw hi ok hg ht he hs) (set_ok fun σ H Q ⟨W, S, sl, d, S', s, q, e, w⟩ => ?_)
  obtain ⟨⟨ds, S1⟩, e1, e⟩ := bsome e
  obtain ⟨⟨rs, S2⟩, e2, e⟩ := bsome e
  dsimp only at e
  split at e
  · rename_i hl
    cases e
    refine lc_ok (fi := fi) (K := X.K) (T := T) hv (fun _ _ _ q => q) (fun _ _ _ _ q => q) (fun _ _ _ q => q) (fun _ _ _ q => q) s q (by rw [e1]; exact e2) hl fun W' H' D ws l p hn s' r' => ?_
    obtain ⟨s2, l2⟩ := s'.pinCell p hn r'
    exact w _ H' _ ⟨l.trans l2, rfl⟩ s2 (rep_ref s'.more_at)
  · cases e
end

/-! ### methods of a list of the store -/
abbrev MOp := Store → Nat → List D → Option (D × Store)
def MOpOk (K : PySem.W.Frag) (T : List Addr) (r : V → List V → Hp → VK → Prop) (f : MOp) : Prop := ∀ W S H n a xs vs d S' Q, Sim K T W S H → W.mu[n]? = some a → Reps K W xs vs → f S n xs = some (d, S') → (∀ W' H' v, W.le W' → Sim K T W' S' H' → Rep K W' d v → Q v H') → r (.ref a) vs H Q
def fMt (op : MOp) (o : FE) (r : FA) : FE := fun sl S => (o sl S).bind fun p => match p.1 with
  | .ref n => (cellL p.2 n).bind fun _ => (r sl p.2).bind fun q => op q.2 n q.1
  | _ => none
def mAppend : MOp := fun S n xs => match xs with
  | [x] => (cellL S n).bind fun l => if l.length < sizeLine then some (.non, S.set n (.lst (l ++ [x]))) else none
  | _ => none
def mExtend : MOp := fun S n xs => match xs with
  | [x] => (cellL S n).bind fun l => (asL S x).bind fun m => if l.length + m.length ≤ sizeLine then some (.non, S.set n (.lst (l ++ m))) else none
  | _ => none
def mPop : MOp := fun S n xs => match xs with
  | [] => (cellL S n).bind fun l => (l[l.length - 1]?).bind fun d => some (d, S.set n (.lst l.dropLast))
  | _ => none
def mPopAt : MOp := fun S n xs => match xs with
  | [.int i] => (cellL S n).bind fun l => if -(2 ^ 63) ≤ i ∧ i < 2 ^ 63 then (seqIndex? i l.length).bind fun k => (l[k]?).bind fun d => some (d, S.set n (.lst (l.eraseIdx k))) else none
  | _ => none
section
variable {K : PySem.W.Frag} {T : List Addr}
theorem cell_at {W : Wd} {S : Store} {H : Hp} {n : Nat} {a : Addr} {l : List D} (s : Sim K T W S H) (m : W.mu[n]? = some a) (h : cellL S n = some l) : ∃ vs, H a = some (.lst vs) ∧ Reps K W l vs := s.cell n _ a (cellL_some h) m
theorem ok_append : MOpOk K T rAppend mAppend := by
  intro W S H n a xs vs d S' Q s m r e g
  match xs, e with
  | [x], e =>
    obtain ⟨l, e1, e⟩ := bsome e
    split at e
    · rename_i hl
      cases e
      obtain ⟨v, rfl, rx⟩ := reps1 r
      obtain ⟨ws, ha, q⟩ := cell_at s m e1
      exact ⟨a, ws, v, rfl, rfl, ha, by rw [q.length]; exact hl, g W _ _ (Wd.le.refl W) (s.put (cellL_some e1) rfl m ⟨_, rfl, q.append (reps_cons rx reps_nil)⟩ rfl) rep_non⟩
    · cases e
theorem ok_extend : MOpOk K T rExtend mExtend := by
  intro W S H n a xs vs d S' Q s m r e g
  match xs, e with
  | [x], e =>
    obtain ⟨l, e1, e⟩ := bsome e
    obtain ⟨k, e2, e⟩ := bsome e
    split at e
    · rename_i hl
      cases e
      obtain ⟨v, rfl, rx⟩ := reps1 r
      obtain ⟨ws, ha, q⟩ := cell_at s m e1
      obtain ⟨b, us, rfl, hb, qb⟩ := asL_ok s rx e2
      exact ⟨a, b, ws, us, rfl, rfl, ha, hb, by rw [q.length, qb.length]; exact hl, g W _ _ (Wd.le.refl W) (s.put (cellL_some e1) rfl m ⟨_, rfl, q.append qb⟩ rfl) rep_non⟩
    · cases e
theorem ok_pop : MOpOk K T rPop mPop := by
  intro W S H n a xs vs d S' Q s m r e g
  match xs, e with
  | [], e =>
    obtain ⟨l, e1, e⟩ := bsome e
    obtain ⟨x, e2, e⟩ := bsome e
    cases e
    obtain ⟨ws, ha, q⟩ := cell_at s m e1
    obtain ⟨v, hv, rv⟩ := q.get e2
    exact ⟨a, ws, v, rfl, r.nil, ha, by rw [q.length]; exact hv, g W _ _ (Wd.le.refl W) (s.put (cellL_some e1) rfl m ⟨_, rfl, q.dropLast⟩ rfl) rv⟩
theorem ok_popAt : MOpOk K T rPopAt mPopAt := by
  intro W S H n a xs vs d S' Q s m r e g
  match xs, e with
  | [.int i], e =>
    obtain ⟨l, e1, e⟩ := bsome e
    split at e
    · rename_i hi
      obtain ⟨k, e2, e⟩ := bsome e
      obtain ⟨x, e3, e⟩ := bsome e
      cases e
      obtain ⟨u, rfl, ru⟩ := reps1 r
      obtain ⟨ws, ha, q⟩ := cell_at s m e1
      obtain ⟨v, hv, rv⟩ := q.get e3
      exact ⟨a, ws, i, k, v, rfl, by rw [ru.int], ha, hi.1, hi.2, by rw [q.length]; exact e2, hv, g W _ _ (Wd.le.refl W) (s.put (cellL_some e1) rfl m ⟨_, rfl, q.eraseIdx k⟩ rfl) rv⟩
    · cases e
theorem tyV_lst {a : Addr} {H : Hp} {vs : List V} (h : H a = some (.lst vs)) : tyV K "list" (.ref a) H := Or.inl ⟨rfl, _, Or.inl (Or.inl h)⟩
theorem mt_okR {fo : FE} {fr : FA} {op : MOp} {r : V → List V → Hp → VK → Prop} (hs : MOpOk K T r op) : ∀ σ H Q, tD K T (fMt op fo fr) σ H Q → tBM K "list" r (tD K T fo) (tDA K T fr) σ H Q := by
  rintro σ H Q ⟨W, S, sl, d, S', s, q, e, w⟩
  obtain ⟨⟨x, S1⟩, e1, e⟩ := bsome e
  cases x with
  | ref n =>
    obtain ⟨l, e2, e⟩ := bsome e
    obtain ⟨⟨xs, S2⟩, e3, e⟩ := bsome e
    refine tD.mk s q e1 fun W1 H1 v1 l1 s1 r1 => ?_
    obtain ⟨a, m, rfl⟩ := r1.ref
    obtain ⟨ws, ha, _⟩ := cell_at s1 m e2
    exact ⟨tyV_lst ha, tDA.mk s1 (q.mono l1) e3 fun W2 H2 vs l2 s2 r2 => hs W2 _ H2 n a xs vs d S' Q s2 (l2.at m) r2 e fun W3 H3 v3 l3 => w W3 H3 v3 ((l1.trans l2).trans l3)⟩
  | _ => cases e
theorem mt_okR0 {fo : FE} {op : MOp} {r : V → List V → Hp → VK → Prop} (hs : MOpOk K T r op) : ∀ σ H Q, tD K T (fMt op fo fNil) σ H Q → tBM0 K "list" r (tD K T fo) σ H Q := by
  rintro σ H Q ⟨W, S, sl, d, S', s, q, e, w⟩
  obtain ⟨⟨x, S1⟩, e1, e⟩ := bsome e
  cases x with
  | ref n =>
    obtain ⟨l, e2, e⟩ := bsome e
    obtain ⟨⟨xs, S2⟩, e3, e⟩ := bsome e
    cases e3
    refine tD.mk s q e1 fun W1 H1 v1 l1 s1 r1 => ?_
    obtain ⟨a, m, rfl⟩ := r1.ref
    obtain ⟨ws, ha, _⟩ := cell_at s1 m e2
    exact ⟨tyV_lst ha, hs W1 _ H1 n a [] [] d S' Q s1 m reps_nil e fun W3 H3 v3 l3 => w W3 H3 v3 (l1.trans l3)⟩
  | _ => cases e
/-- xs[i] = e of a list of the store -/
def sSetIx (a o i : FE) : FS := fun sl S => (a sl S).bind fun p => (o sl p.2).bind fun q => (i sl q.2).bind fun r => match q.1, r.1 with
  | .ref n, .int k => (cellL r.2 n).bind fun l => (ixN l.length k).bind fun j => some (.nx, sl, r.2.set n (.lst (l.set j p.1)))
  | _, _ => none
theorem ds_setIx {X : Cx} {o i e : Expr} {fo fi fe : FE} {pos tpos : Pos} (he : DE X T e fe) (ho : DE X T o fo) (hi : DE X T i fi)
    (ha : ∀ v, assign (.Subscript o i tpos) X.env v = (do
      let ov ← holding [v] (eval o X.env)
      let iv ← holding [v, ov] (eval i X.env)
      standAt tpos
      holding [v, ov, iv] (setItem ov iv v)
      release [v, ov, iv] []) := by intro _; rfl)
    (hs : swapsWithSole [.Subscript o i tpos] e pos.line X.env = pure false := by rfl) (hw : swappedStores [.Subscript o i tpos] e X.env = pure none := by rfl)
    (h1 : (assignEach [.Subscript o i tpos] X.env).map (·.2) = [assign (.Subscript o i tpos) X.env] := by rfl) : DS X T (.Assign [.Subscript o i tpos] e pos) (sSetIx fe fo fi) := by
  refine PS.imp (ps_asg he (pg_sub ho hi set_list ha) hs hw h1) fun En σ H ⟨W, S, sl, fl, sl', S', s, q, e, w⟩ => ?_
  obtain ⟨⟨d, S1⟩, e1, e⟩ := bsome e
  obtain ⟨⟨x, S2⟩, e2, e⟩ := bsome e
  obtain ⟨⟨y, S3⟩, e3, e⟩ := bsome e
  cases x with
  | ref n =>
    cases y with
    | int k =>
      obtain ⟨l, e4, e⟩ := bsome e
      obtain ⟨j, e5, e⟩ := bsome e
      cases e
      refine tD.mk s q e1 fun W1 H1 v1 l1 s1 r1 => tD.mk s1 (q.mono l1) e2 fun W2 H2 v2 l2 s2 r2 => tD.mk s2 (q.mono (l1.trans l2)) e3 fun W3 H3 v3 l3 s3 r3 => ?_
      obtain ⟨a, m, rfl⟩ := (r2.mono l3).ref
      obtain ⟨ws, ha, qw⟩ := cell_at s3 m e4
      exact ⟨a, ws, k, j, rfl, r3.int, ha, by rw [qw.length]; exact e5, w W3 _ σ ((l1.trans l2).trans l3) (s3.put (cellL_some e4) rfl m ⟨_, rfl, qw.set j (r1.mono (l2.trans l3))⟩ rfl) (q.mono ((l1.trans l2).trans l3))⟩
    | _ => cases e
  | _ => cases e
end

/-! ### defs and their calls -/
def dstart (m : Nat) (ds : List D) : Slots := ds.map some ++ List.replicate (m - ds.length) none
def fnRun (n m : Nat) (body : FS) : FN := fun ds S => if ds.length = n then (body (dstart m ds) S).bind fun r => match r with
    | (.ret d, _, S') => some (d, S')
    | (.nx, _, S') => some (.non, S')
    | _ => none
  else none
def spD (K : PySem.W.Frag) (T : List Addr) (F : FN) : Sp := fun vs H Q _ => ∃ W S ds r S', Sim K T W S H ∧ Reps K W ds vs ∧ F ds S = some (r, S') ∧ ∀ W' H' v, W.le W' → Sim K T W' S' H' → Rep K W' r v → Q v H'
def fCall (F : FN) (a : FA) : FE := fun sl S => (a sl S).bind fun p => F p.1 p.2
theorem start_reps {K : PySem.W.Frag} {W : Wd} {N : List Str} {ds : List D} {vs : List V} (r : Reps K W ds vs) : RSl K W (dstart N.length ds) (L2.start N vs) := by
  have hl := r.length
  refine ⟨?_, fun i d e => ?_⟩
  · unfold dstart L2.start
    rw [List.length_append, List.length_append, List.length_map, List.length_map, List.length_replicate, List.length_replicate, hl]
  · unfold dstart at e
    unfold L2.start
    by_cases hi : i < ds.length
    · rw [List.getElem?_append_left (by rw [List.length_map]; exact hi), List.getElem?_map] at e
      rw [List.getElem?_append_left (by rw [List.length_map, hl]; exact hi), List.getElem?_map]
      cases z : ds[i]? with
      | none => rw [z] at e; cases e
      | some x =>
        rw [z] at e
        cases e
        obtain ⟨v, hv, rv⟩ := r.get z
        exact ⟨v, by rw [hv]; rfl, rv⟩
    · rw [List.getElem?_append_right (by rw [List.length_map]; omega), List.getElem?_replicate] at e
      split at e <;> cases e
section
variable {P : Program} {w : World} {K : PySem.W.Frag} {mg : Str → Option Value} {base : Heap} {T : List Addr}
/-- THE RULE for a def: its body as a term of rules -/
theorem fn_ok {x qual : Str} {st : Stmt} {f : Addr} {fd : FuncData} {N ps : List Str} {k : Nat} {body : FS} (F : Fun K x qual st f fd) (Sc : FnScope N ps (defScope st))
    (h : ∀ (cdv : Value) (A : Around) (outer : List Env) (s : Shared) (H : Hp) (E : XK), Room k (A.deeper (envOfC qual (defScope st) s.heap.objs.size f cdv)) → DSs (cxOf CX0 P w K mg base N qual (defScope st) f cdv A outer s H E).nox T (defBody st) body) :
    FnOk P w K mg base CX0 (k + 1) f fd ps (spD K T (fnRun ps.length N.length body)) := by
  refine F.ok Sc (fun vs H Q E h => ?_) (fun cdv A outer s H vs Q E hr hsp => ⟨_, h cdv A outer s H E hr, ?_⟩)
  · obtain ⟨W, S, ds, r, S', _, q, e, _⟩ := h
    unfold fnRun at e
    split at e
    · rename_i hl
      rw [q.length, hl]
    · cases e
  · obtain ⟨W, S, ds, r, S', sm, q, e, g⟩ := hsp
    unfold fnRun at e
    split at e
    · obtain ⟨⟨fl, sl, S2⟩, e1, e⟩ := bsome e
      refine tDS.mk sm (start_reps q) e1 ?_
      cases fl with
      | ret d => cases e; exact fun W' H' v l s' r' => g W' H' v l s' r'
      | nx => cases e; exact fun W' H' v l s' r' => g W' H' .non l s' rep_non
      | bk => cases e
      | ct => cases e
    · cases e
theorem fn_imp {CX : CXT} {k : Nat} {f : Addr} {fd : FuncData} {ps : List Str} {F G : FN} (h : FnOk P w K mg base CX k f fd ps (spD K T F)) (i : ∀ ds S r, G ds S = some r → F ds S = some r) : FnOk P w K mg base CX k f fd ps (spD K T G) :=
  h.imp fun vs H Q E ⟨W, S, ds, r, S', a, b, c, d⟩ => ⟨W, S, ds, r, S', a, b, i ds S _ c, d⟩
end
section
variable {X : Cx} {T : List Addr} {e : Expr} {es : List Expr} {fr : FA} {f : Addr} {fd : FuncData} {ps : List Str} {k : Nat} {F : FN} {x : Str} {p pos : Pos}
theorem de_call (G : FnOk X.prog X.w X.K X.mg X.base CX0 k f fd ps (spD X.K T F)) (hr : Room k X.A) (hg : Gl X x) (hm : X.mg x = some (.ref f)) (hk : PySem.W.keepIn X.K (.ref f) = true) (hb : Binds X.K fd ps [])
    (ha : DA X T (e :: es) fr) (hdb : (x == ("__debug__" : Str)) = false := by decide) (he : starEach (e :: es) X.env = (false, eval e X.env) :: starEach es X.env := by rfl) (hpl : (backTo pos (starEach es X.env)).any (·.1) = false := by rfl) :
    DE X T (.Call (.Name x p) (e :: es) [] pos) (fCall F fr) := by
  refine PE.imp (pe_call G hr hg hm hk hb .nil pass0 ha hdb he hpl) fun σ H Q ⟨W, S, sl, d, S', s, q, e, w⟩ => ?_
  obtain ⟨⟨ds, S1⟩, e1, e⟩ := bsome e
  refine tDA.mk s q e1 fun W1 H1 vs l1 s1 r1 => ?_
  rw [List.append_nil]
  exact ⟨W1, S1, ds, d, S', s1, r1, e, fun W2 H2 v2 l2 => w W2 H2 v2 (l1.trans l2)⟩
theorem de_call0 (G : FnOk X.prog X.w X.K X.mg X.base CX0 k f fd ps (spD X.K T F)) (hr : Room k X.A) (hg : Gl X x) (hm : X.mg x = some (.ref f)) (hk : PySem.W.keepIn X.K (.ref f) = true) (hb : Binds X.K fd ps [])
    (hdb : (x == ("__debug__" : Str)) = false := by decide) : DE X T (.Call (.Name x p) [] [] pos) (fCall F fNil) := by
  refine PE.imp (pe_call0 G hr hg hm hk hb .nil pass0 hdb) fun σ H Q ⟨W, S, sl, d, S', s, q, e, w⟩ => ?_
  obtain ⟨⟨ds, S1⟩, e1, e⟩ := bsome e
  cases e1
  exact ⟨W, S, [], d, S', s, reps_nil, e, w⟩
end

/-! ### what a def has made for itself is forgotten -/
mutual
def dBelow (n : Nat) : D → Bool
  | .ref m => decide (m < n)
  | .tup xs => dBelows n xs
  | .lst xs => dBelows n xs
  | _ => true
def dBelows (n : Nat) : List D → Bool
  | [] => true
  | x :: xs => dBelow n x && dBelows n xs
end
def cBelow (n : Nat) : Cell → Bool
  | .dead => true
  | .lst xs => dBelows n xs
  | .ins _ fs => fs.all fun p => dBelow n p.2
/-- the store cut back to what was there -/
def gcRun (F : FN) : FN := fun ds S => (F ds S).bind fun p => if (dBelow S.length p.1 && (p.2.take S.length).all (cBelow S.length)) = true then some (p.1, p.2.take S.length) else none
section
variable {K : PySem.W.Frag} {T : List Addr} {W : Wd} {S : Store} {H : Hp}
def Wd.cut (W : Wd) (n : Nat) : Wd := ⟨W.mu.take n, W.phi, W.pin⟩
mutual
theorem rep_cut {n : Nat} : ∀ {d : D} {v : V}, dBelow n d = true → Rep K W d v → Rep K (W.cut n) d v
  | .non, _, _, h => by unfold Rep at h ⊢; exact h
  | .bl _, _, _, h => by unfold Rep at h ⊢; exact h
  | .int _, _, _, h => by unfold Rep at h ⊢; exact h
  | .str _, _, _, h => by unfold Rep at h ⊢; exact h
  | .tup ds, _, b, h => by
    unfold dBelow at b
    obtain ⟨a, vs, e, t, r⟩ := h.tup
    unfold Rep
    exact ⟨a, vs, e, t, reps_cut b r⟩
  | .lst ds, _, b, h => by
    unfold dBelow at b
    obtain ⟨a, vs, e, t, r⟩ := h.lst
    unfold Rep
    exact ⟨a, vs, e, t, reps_cut b r⟩
  | .ref m, _, b, h => by
    unfold dBelow at b
    obtain ⟨a, e, z⟩ := h.ref
    unfold Rep
    exact ⟨a, (List.getElem?_take_of_lt (of_decide_eq_true b)).trans e, z⟩
  | .scr ns, _, _, h => by
    obtain ⟨a, e, z⟩ := h.scr
    unfold Rep
    exact ⟨a, e, z⟩
theorem reps_cut {n : Nat} : ∀ {ds : List D} {vs : List V}, dBelows n ds = true → Reps K W ds vs → Reps K (W.cut n) ds vs
  | [], _, _, h => by unfold Reps at h ⊢; exact h
  | d :: ds, _, b, h => by
    unfold dBelows at b
    rw [Bool.and_eq_true] at b
    obtain ⟨v, r, rfl, h1, h2⟩ := h.cons
    exact reps_cons (rep_cut b.1 h1) (reps_cut b.2 h2)
end
theorem repf_cut {n : Nat} : ∀ {fs : List (Str × D)} {vs : List (Str × V)}, fs.all (fun p => dBelow n p.2) = true → RepF K W fs vs → RepF K (W.cut n) fs vs
  | [], _, _, h => h
  | p :: fs, _, b, ⟨v, r, e, h1, h2⟩ => by
    rw [List.all_cons, Bool.and_eq_true] at b
    exact ⟨v, r, e, rep_cut b.1 h1, repf_cut b.2 h2⟩
theorem Sim.cut (s : Sim K T W S H) (n : Nat) (b : (S.take n).all (cBelow n) = true) : Sim K T (W.cut n) (S.take n) H := by
  have mem : ∀ {k : Nat} {c : Cell}, (S.take n)[k]? = some c → S[k]? = some c ∧ k < n := fun {k c} e => by
    have hk : k < n := by
      have := (List.getElem?_eq_some_iff.mp e).1
      rw [List.length_take] at this
      omega
    rw [List.getElem?_take_of_lt hk] at e
    exact ⟨e, hk⟩
  have mum : ∀ {k : Nat} {a : Addr}, (W.cut n).mu[k]? = some a → W.mu[k]? = some a := fun {k a} e => by
    have e : (W.mu.take n)[k]? = some a := e
    have hk : k < n := by
      have := (List.getElem?_eq_some_iff.mp e).1
      rw [List.length_take] at this
      omega
    rwa [List.getElem?_take_of_lt hk] at e
  refine ⟨by show (W.mu.take n).length = _; rw [List.length_take, List.length_take, s.len], s.imm, fun k c a e m => ?_, fun k j c c' a e e' l l' m m' => s.inj k j c c' a (mem e).1 (mem e').1 l l' (mum m) (mum m'), fun k c a e l m => s.mt k c a (mem e).1 l (mum m), s.tab, s.knd, s.pn, fun k c a e l m => s.pc k c a (mem e).1 l (mum m)⟩
  have q := s.cell k c a (mem e).1 (mum m)
  have bc : cBelow n c = true := List.all_eq_true.mp b c (List.mem_of_getElem? e)
  cases c with
  | dead => trivial
  | lst ds => obtain ⟨vs, z, r⟩ := q; exact ⟨vs, z, reps_cut bc r⟩
  | ins C fs => obtain ⟨dx, vs, z, r⟩ := q; exact ⟨dx, vs, z, repf_cut bc r⟩
theorem fn_gc {P : Program} {w : World} {mg : Str → Option Value} {base : Heap} {CX : CXT} {k : Nat} {f : Addr} {fd : FuncData} {ps : List Str} {F : FN} (h : FnOk P w K mg base CX k f fd ps (spD K T F)) : FnOk P w K mg base CX k f fd ps (spD K T (gcRun F)) :=
  h.imp fun vs H Q E ⟨W, S, ds, r, S', a, b, c, d⟩ => by
    obtain ⟨⟨x, S1⟩, e1, c⟩ := bsome c
    dsimp only at c
    split at c
    · rename_i hb
      cases c
      rw [Bool.and_eq_true] at hb
      refine ⟨W, S, ds, _, S1, a, b, e1, fun W' H' v l s' r' => d (W'.cut S.length) H' v ⟨⟨⟨[], ?_⟩, l.phi⟩, l.pin⟩ (s'.cut S.length hb.2) (rep_cut hb.1 r')⟩
      obtain ⟨m, em⟩ := l.mu
      show W'.mu.take S.length = W.mu ++ []
      rw [em, ← a.len, List.append_nil, List.take_left]
    · cases c
end
end DL

/-! any, all of a generator expression whose elements are signs. -/
namespace DL
open PySem PySem.Spec PyProof.Rows L2
open Sem (wp)

/-- the context of a generator expression's frame -/
abbrev gxC (X : Cx) (s : Shared) (H : Hp) (cenv : Env) (fp : List Addr) (pn : List (Addr × Obj)) : Cx :=
  { X with A := X.A.in1.in1.deeper cenv, s_0 := s, H_0 := H, env := cenv, outer := X.stack, stack := cenv :: X.stack, ex := fp, fn := fun _ => false, pn := pn, xe := fun _ _ => False }
abbrev gxEnv (X : Cx) (scope : Scope) (C : Addr) (code : Value) : Env := genEnv scope (cloFrom X.env.cells scope.names []) C code builtinsNs X.env
theorem over_gx {A : Around} {elt : Expr} {gs : List Comprehension} {scope : Scope} {pos : Pos} {it : Value} {env : Env} : A.over (.compLoop (.GeneratorExp elt gs scope pos) 0 it .none env) [] = A.deeper env := by
  first
    | rfl
    | (obtain ⟨hd, d, fr, gg, u⟩ := A; simp [Around.over, Around.deeper, marksOver, frameCount, unitsOf, envsOf, guardsOf, pushEnvs, pushGuards, Code.envs, Code.env?, Code.isFrame, Code.guards, Code.isGuard, Code.weight, Code.frames, Code.isCreation, Code.isCaller, Code.cUnits])
section
variable {X : Cx} {pins : List (Addr × Obj)} {σ : L2.St} {H : Hp} {s : Shared}
theorem Inv.gens {g' : Array GenState} {t : Nat} (I : Inv X pins σ H s) (hb : AllBare g') : Inv X pins σ H { s with gens := g', toks := t } :=
  ⟨I.ok, I.os, hb, I.base, I.loc, I.cell, I.free, I.freeC, I.pin, I.hok, I.len⟩
theorem bare_set {g : Array GenState} {i : Nat} {x : GenState} (h : AllBare g) (hx : x.bare = true) : AllBare (g.setIfInBounds i x) := fun y hy => by
  rcases Array.mem_or_eq_of_mem_setIfInBounds hy with z | z
  · exact h y z
  · rw [z]; exact hx
theorem gx_start {scope : Scope} {own : List (Str × Nat)} {fp : List Addr} {code : Value} {it : Value} {a : Addr} {go : Obj} {s5 : Shared} (I : Inv X pins σ H s) (ok : BlkOk X.N X.env.scope scope own) (hcell : ∀ y ∈ scope.names, y.2 ≠ .cell) (hN : X.N.Nodup) (hfp : ∀ b ∈ fp, FpOk X pins H b ∧ b < s.heap.objs.size)
    (os5 : s5.os = s.os) (b5 : AllBare s5.gens) (kp : ∀ b o, s.heap.get? b = some o → s5.heap.get? b = some o) (hns : s5.heap.Ns s.heap.objs.size (fun y => if y = ".0" then some it else none)) (ha : s.heap.objs.size < a) (hgo : s5.heap.get? a = some go) (hgc : ∀ v, go.data ≠ .cell v) :
    Inv (gxC X s H (gxEnv X scope s.heap.objs.size code) fp [(a, go)]) [] (wipe σ (own.map (·.2))) H s5 := by
  have hfree : ∀ y ∈ scope.names, y.2 = .free → ∃ c, X.env.cells.lookup y.1 = some c := fun y hy e => by
    rcases ok.free y hy e with k | k
    · exact I.ok.has _ (.inl k)
    · exact I.ok.has _ (.inr k)
  have cm : ∀ {y c}, (cloFrom X.env.cells scope.names []).lookup y = some c → X.env.cells.lookup y = some c ∧ c < s.heap.objs.size := fun {y c} hm => by
    rcases cloFrom_mem (PySem.mem_of_lookup hm) with hm | ⟨h1, rfl⟩
    · cases hm
    · obtain ⟨c, hc⟩ := hfree _ h1 rfl
      rw [hc]
      obtain ⟨w, z⟩ := I.cell _ _ hc
      exact ⟨rfl, z.lt⟩
  have look : ∀ {y}, scope.names.lookup y = some .free → ∃ c, (cloFrom X.env.cells scope.names []).lookup y = some c ∧ X.env.cells.lookup y = some c := fun {y} hl => by
    have hy : (y, NameKind.free) ∈ scope.names := PySem.mem_of_lookup hl
    obtain ⟨c', e'⟩ := mem_lookup (cloFrom_has (cells := X.env.cells) (acc := []) hy)
    exact ⟨c', e', (cm e').1⟩
  have nocell : ∀ {y}, scope.names.lookup y ≠ some .cell := fun {y} z => hcell (y, .cell) (PySem.mem_of_lookup z) rfl
  have okB : (gxC X s H (gxEnv X scope s.heap.objs.size code) fp [(a, go)]).Ok := by
    refine ⟨I.ok.mod, ok.kind, I.ok.glob, rfl, Nat.le_refl _, fun y z c e1 e2 => I.ok.inj y z c (cm e1).1 (cm e2).1, fun y hy => ?_, fun y c z e => Bool.noConfusion z, fun hc => I.ok.hd hc, ?_, .inr ⟨rfl, rfl⟩, fun b hb => ⟨Nat.ne_of_lt (hfp b hb).2, fun y c e => (hfp b hb).1.2.2.2.2.1 y c (cm e).1⟩,
      I.bs, Nat.le_trans I.ok.bsz I.sz, fun b o e hb => ?_, fun b hb z => ?_, I.stack, I.stkFree⟩
    · rcases hy with hy | hy
      · exact absurd hy nocell
      · obtain ⟨c, h1, _⟩ := look hy
        exact ⟨c, h1⟩
    · show (X.A.frames).map _ = _
      rw [I.ok.frames]
      rfl
    · rcases (hfp b hb).1.2.2.2.1 with z | z
      · exact I.ok.noex b o e z
      · exact absurd (Nat.lt_of_lt_of_le (Heap.lt_size e) (Nat.le_trans I.ok.bsz z)) (Nat.lt_irrefl _)
    · rcases List.mem_cons.mp (I.stkSub b z) with z | z
      · exact (hfp b hb).1.2.1 z
      · exact (hfp b hb).1.2.2.1 z
  refine ⟨okB, os5, b5, Un.kept kp, ⟨_, hns, fun i y av e1 e2 e3 => ?_⟩, fun y c e => ?_, I.hok.fresh (Nat.le_refl _), fun y c e => I.freeC y c (cm e).1, fun p hp => ?_, I.hok.kept kp, by rw [wipe_length]; exact I.len⟩
  · obtain ⟨e2, hne⟩ := wipe_some e2
    have no : ∀ k, scope.names.lookup y = some k → (k = .local ∨ k = .cell) → False := fun k e hh => by
      rcases ok.own _ (PySem.mem_of_lookup e) hh with e' | e'
      · obtain ⟨p, hp, hpy⟩ := List.mem_map.mp e'
        have e3 := ok.ix p hp
        have : p.1 = y := hpy
        rw [this] at e3
        exact hne (List.mem_map.mpr ⟨p, hp, nodup_ix hN e3 e1⟩)
      · exact e' (List.mem_of_getElem? e1)
    have hfr : scope.names.lookup y = some .free := by
      have e3 : Vis scope y := e3
      rcases e3 with e3 | e3 | e3
      · exact (no _ e3 (.inl rfl)).elim
      · exact (no _ e3 (.inr rfl)).elim
      · exact e3
    obtain ⟨m, hn, hl⟩ := I.loc
    have hvis : Vis X.env.scope y := (ok.free _ (PySem.mem_of_lookup hfr) rfl).elim (fun k => .inr (.inl k)) (fun k => .inr (.inr k))
    obtain ⟨w, r, q⟩ := hl i y av e1 e2 hvis
    refine ⟨w, r, .inr ⟨.inr hfr, ?_⟩⟩
    obtain ⟨c, h1, h2⟩ := look hfr
    rcases q with ⟨k, _⟩ | ⟨_, c', e', z⟩
    · have k : X.env.scope.names.lookup y = some .local := k
      rcases ok.free _ (PySem.mem_of_lookup hfr) rfl with k' | k' <;> rw [show X.env.scope.names.lookup y = _ from k'] at k <;> cases k
    · rw [h2] at e'; cases e'
      exact ⟨c, h1, z.keeps kp⟩
  · obtain ⟨w, z⟩ := I.cell y c (cm e).1
    exact ⟨w, z.keeps kp⟩
  · have hp : p = (a, go) := by
      rcases List.mem_append.mp hp with z | z
      · exact List.mem_singleton.mp z
      · cases z
    subst hp
    refine ⟨hgo, I.hok.fresh (Nat.le_of_lt ha), Nat.ne_of_gt ha, fun z => ?_, hgc⟩
    rcases List.mem_cons.mp (I.stkSub _ z) with z | z
    · have z : a = X.env.locals := z
      exact absurd (Nat.lt_trans I.lt ha) (by rw [z]; exact Nat.lt_irrefl _)
    · exact I.nofs (Nat.le_of_lt ha) z
end

/-! ### what it computes -/
/-- w: the sign at which any, all stop -/
def gxL (w : Bool) (g : GF) (t : FT) (fe : FE) : List D → Slots → Store → Option (Bool × Store)
  | [], _, S => some (!w, S)
  | d :: ds, sl, S => (g d sl).bind fun sl1 => (t sl1 S).bind fun p => if p.1 then (fe sl1 p.2).bind fun q => match q.1 with
      | .bl b => if b = w then some (w, q.2) else gxL w g t fe ds sl q.2
      | _ => none
    else gxL w g t fe ds sl p.2
def fGx (w : Bool) (f : FI) (g : GF) (t : FT) (fe : FE) (vs : List Nat) : FE := fun sl S => (f sl S).bind fun p => (gxL w g t fe p.1 (wipeD sl vs) p.2).bind fun r => some (.bl r.1, r.2)

/-- at the end -/
def GxEnd (Xg : Cx) (T : List Addr) (W1 : Wd) (S : Store) (s : Shared) : Prop := ∃ (W : Wd) (H : Hp) (σ : L2.St), Inv Xg [] σ H s ∧ W1.le W ∧ Sim Xg.K T W S H
def gxR (Xg : Cx) (T : List Addr) (w : Bool) (W1 : Wd) (res : Bool × Store) : GenEnd := fun _ _ r s => r = .ok .next ∧ (res.1 = !w ∧ GxEnd Xg T W1 res.2 s)
def gxP (Xg : Cx) (T : List Addr) (w : Bool) (W1 : Wd) (res : Bool × Store) : Nat → Shared → Shared → Prop := fun _ _ s => res.1 = (!w) ∧ GxEnd Xg T W1 res.2 s
def gxY (Xg : Cx) (T : List Addr) (w : Bool) (W1 : Wd) (res : Bool × Store) : Protocol := fun _ _ v s kap =>
  ∃ b, v = .bool b ∧ (∃ σ H, Inv Xg [] σ H s) ∧ (b = w → res.1 = w ∧ GxEnd Xg T W1 res.2 s) ∧ (b ≠ w → ∀ s' : Shared, s'.heap = s.heap → s'.os = s.os → AllBare s'.gens → kap (.send .none) s')
theorem Inv.same {X : Cx} {pins : List (Addr × Obj)} {σ : L2.St} {H : Hp} {s s' : Shared} (I : Inv X pins σ H s) (hh : s'.heap = s.heap) (ho : s'.os = s.os) (hb : AllBare s'.gens) : Inv X pins σ H s' := by
  obtain ⟨h', g', d', t', o'⟩ := s'
  have hh : h' = s.heap := hh
  have ho : o' = s.os := ho
  subst hh ho
  exact ⟨I.ok, I.os, hb, I.base, I.loc, I.cell, I.free, I.freeC, I.pin, I.hok, I.len⟩
section
variable {Xg : Cx} {T : List Addr} {A : Around} {J : It} {tn : Nat → Heap → Prop} {fp : List Addr} {w : Bool} {g : GF} {t : FT} {fe : FE} {is vs : List Nat} {ds : List D} {sl0 : Slots} {σ0 : L2.St} {W1 : Wd} {res : Bool × Store} {tg elt iter : Expr} {ifs : List Expr} {scope : Scope} {pos : Pos} {it : Addr}
theorem gx_loop (hA : A.deeper Xg.env = Xg.A) (hxe : ∀ x s', Xg.xe x s' → False) (hc : Xg.calm = true) (hco : Xg.env.scope.isCoroutine = false) (hpn : ∀ p ∈ Xg.pn, ∀ b ∈ fp, p.1 ≠ b) (hex : Xg.ex = fp) (Tn : Turn Xg.prog Xg.w Xg.K tg J fp it tn) (ok : ItOk Xg.K T J W1 ds)
    (pg : DG Xg T tg g is) (pt : DTs Xg T ifs t) (pe : DE Xg T elt fe) (hv : ∀ i ∈ is, i ∈ vs) (q0 : RSl Xg.K W1 sl0 σ0) (hw0 : wipe σ0 vs = σ0) :
    ∀ (k i n : Nat) (s₀ s : Shared) (W : Wd) (S : Store) (H : Hp), ds.length - i = k → i ≤ ds.length → k ≤ n → Inv Xg [] σ0 H s → tn i s.heap → (∀ b ∈ fp, H b = none) → W1.le W → Sim Xg.K T W S H → gxL w g t fe (ds.drop i) sl0 S = some res →
      Seg (model Xg.prog Xg.w) A (gxR Xg T w W1 res) (gxY Xg T w W1 res) n s₀ (.compLoop (.GeneratorExp elt [⟨tg, iter, ifs, 0⟩] scope pos) 0 (.ref it) .none Xg.env)
        ((model Xg.prog Xg.w).den (.compLoop (.GeneratorExp elt [⟨tg, iter, ifs, 0⟩] scope pos) 0 (.ref it) .none Xg.env)) [] s := by
  have stat : ∀ {H' : Hp} {σ' : L2.St} {s' : Shared}, Inv Xg [] σ' H' s' → (∀ b ∈ fp, H' b = none) → ∀ b ∈ fp, FpOk Xg [] H' b := fun {H' σ' s'} I' hn b hb => by
    have hb' : b ∈ Xg.ex := by rw [hex]; exact hb
    exact ⟨hn b hb, (I'.ok.exf b hb').1, I'.ok.exfs b hb', .inl hb', fun x c e => (I'.ok.exf b hb').2 x c e, fun p hp => (List.mem_append.mp hp).elim (fun z => hpn p z b hb) (fun z => nomatch z)⟩
  intro k
  induction k with
  | zero =>
    intro i n s₀ s W S H hk hi hn I st hf l sm e
    have hin : i = ds.length := by omega
    subst hin
    rw [List.drop_length] at e
    cases e
    show Seg _ A _ _ _ s₀ _ ((compTurn (.GeneratorExp elt [⟨tg, iter, ifs, 0⟩] scope pos) 0 (.ref it) .none Xg.env).onRaise (leaving Xg.env)) [] s
    rw [compTurn_gen, Sem.onRaise_eq_wrap]
    refine seg_bind_wrap (wpAny_standAt ?_)
    refine seg_bind_wrap ?_
    rw [over_gx, hA]
    refine wpAny_mono (Tn.done Xg rfl rfl rfl hc ds.length [] s σ0 H (fun _ _ => False) I (stat I hf) st (ok.stop W S H l.toge sm)) (fun r s6 hr => ?_) fun _ _ z => z.elim
    obtain ⟨rfl, I6⟩ := hr
    exact seg_end (.ok .next) ⟨rfl, rfl, W, H, σ0, I6, l, sm⟩
  | succ k ih =>
    intro i n s₀ s W S H hk hi hn I st hf l sm e
    have hlt : i < ds.length := by omega
    show Seg _ A _ _ _ s₀ _ ((compTurn (.GeneratorExp elt [⟨tg, iter, ifs, 0⟩] scope pos) 0 (.ref it) .none Xg.env).onRaise (leaving Xg.env)) [] s
    rw [compTurn_gen, Sem.onRaise_eq_wrap]
    refine seg_bind_wrap (wpAny_standAt ?_)
    refine seg_bind_wrap ?_
    rw [over_gx, hA]
    refine wpAny_mono (Tn.item Xg rfl rfl rfl hc i [] s σ0 H (fun _ _ => False) I (stat I hf) st (ok.go i W S H hlt l.toge sm)) (fun r s6 hr => ?_) fun _ _ z => z.elim
    obtain ⟨u, rfl, h6⟩ := hr
    refine seg_bind_wrap ?_
    rw [over_gx, hA]
    refine wpAny_mono h6 (fun _ s7 h7 => ?_) fun _ _ z => z.elim
    obtain ⟨x, H7, I7, r7, y7, st7, n7⟩ := h7
    obtain ⟨W2, d, l2, sm2, ed, rd⟩ := ok.yld i W S H x H7 hlt l.toge sm y7
    obtain ⟨h1, h2⟩ := List.getElem?_eq_some_iff.mp ed
    rw [List.drop_eq_getElem_cons hlt, h2] at e
    obtain ⟨sl1, e1, e⟩ := bsome e
    obtain ⟨⟨kk, S4⟩, e4, e⟩ := bsome e
    have q2 : RSl Xg.K W2 sl0 σ0 := RSl.mong q0 (l.toge.trans l2.toge)
    have I7' := I7.pinned (stat I7 n7) (Tn.obj _ _ st7)
    refine seg_bind_wrap ?_
    rw [over_gx, hA]
    refine wpAny_mono (pg.run _ s7 _ H7 x u (fun σ' H' => (RSl Xg.K W2 sl1 σ' ∧ σ'.length = σ0.length ∧ ∀ j, j ∉ is → σ'[j]? = σ0[j]?) ∧ Sim Xg.K T W2 S H') I7' r7 ⟨W2, S, sl0, d, sl1, sm2, q2, rd, e1, fun σ' q' hl hnn => ⟨⟨q', hl, hnn⟩, sm2⟩⟩) (fun _ s8 h8 => ?_) fun x s' z => (hxe x s' z).elim
    obtain ⟨σ8, H8, I8, ⟨q8, hl8, hn8⟩, sm8⟩ := h8
    have hw8 : wipe σ8 vs = σ0 := by rw [wipe_same hl8 fun j hj => hn8 j fun z => hj (hv j z), hw0]
    refine seg_bind_wrap ?_
    rw [over_gx, hA]
    refine wpAny_mono (pt.run _ s8 σ8 H8 (fun b H' => ∃ W', W2.le W' ∧ Sim Xg.K T W' S4 H' ∧ b = kk) I8 (tDT.mk sm8 q8 e4 fun W' H' l' s' => ⟨W', l', s', rfl⟩)) (fun b s9 h9 => ?_) fun x s' z => (hxe x s' z).elim
    obtain ⟨H9, I9, W3, l3, sm9, rfl⟩ := h9
    -- the turn's end
    have fin : ∀ {s' : Shared} {H' : Hp}, Inv Xg ([] ++ pinsAt fp s7.heap) σ8 H' s' → Inv Xg [] σ0 H' s' ∧ tn (i + 1) s'.heap ∧ ∀ b ∈ fp, H' b = none := fun {s' H'} I' => by
      have pin' : ∀ b ∈ fp, ∀ o, s7.heap.get? b = some o → s'.heap.get? b = some o ∧ H' b = none := fun b hb o e =>
        let z := I'.pin (b, o) (List.mem_append_right _ (List.mem_append_right _ (mem_pinsAt hb e)))
        ⟨z.1, z.2.1⟩
      refine ⟨(I'.unpinned (pins := [])).weak hl8.symm (fun j v e => ?_), Tn.keep _ _ _ st7 fun b hb o e => (pin' b hb o e).1, fun b hb => ?_⟩
      · rw [← hw8] at e
        exact (wipe_some e).1
      · obtain ⟨o, e, _⟩ := Tn.obj _ _ st7 b hb
        exact (pin' b hb o e).2
    cases b with
    | false =>
      simp only [Bool.false_eq_true, if_false] at e ⊢
      obtain ⟨If, stf, nf⟩ := fin I9
      exact seg_again rfl (ih (i + 1) n s₀ s9 W3 S4 H9 (by omega) hlt (by omega) If stf nf (l.trans (l2.trans l3)) sm9 e)
    | true =>
      simp only [if_true] at e ⊢
      obtain ⟨⟨y, S5⟩, e5, e⟩ := bsome e
      have hy : ∀ v, yieldOut Xg.env v = yieldValue v := fun v => by simp only [yieldOut, hco, Bool.false_eq_true, if_false]
      simp only [hy]
      rw [Sem.bind_eq_wrap', Sem.bind_eq_wrap', Sem.wrap_wrap, Sem.wrap_wrap]
      refine seg_wrap ?_
      rw [over_gx, hA]
      refine wpAny_mono (pe.run _ s9 σ8 H9 (fun v H' => ∃ W', W3.le W' ∧ Sim Xg.K T W' S5 H' ∧ Rep Xg.K W' y v) I9 (tD.mk sm9 (q8.mono l3) e5 fun W' H' v' l' s' r' => ⟨W', l', s', r'⟩)) (fun u2 s10 h10 => ?_) fun x s' z => (hxe x s' z).elim
      obtain ⟨yv, H10, I10, r10, W4, l4, sm10, ry⟩ := h10
      obtain ⟨If, stf, nf⟩ := fin I10
      obtain ⟨n', rfl⟩ : ∃ n', n = n' + 1 := ⟨n - 1, by omega⟩
      cases y with
      | bl b =>
        have ey := ry.bl
        subst ey
        have eu : u2 = Value.bool b := r10
        subst eu
        dsimp only at e
        refine seg_at (seg_yield rfl rfl rfl ⟨b, rfl, ⟨σ0, H10, If⟩, fun hb => ?_, fun hb s'' hh ho hbr => ?_⟩)
        · rw [if_pos hb] at e
          cases e
          exact ⟨rfl, W4, H10, σ0, If, l.trans (l2.trans (l3.trans l4)), sm10⟩
        · rw [if_neg hb] at e
          refine seg_again rfl (ih (i + 1) n' s'' s'' W4 S5 H10 (by omega) hlt (by omega) (Inv.same If hh ho hbr) (by rw [hh]; exact stf) nf (l.trans (l2.trans (l3.trans l4))) sm10 e)
      | _ => cases e
theorem gx_begin (hA : A.deeper Xg.env = Xg.A) (hxe : ∀ x s', Xg.xe x s' → False) (hc : Xg.calm = true) (hco : Xg.env.scope.isCoroutine = false) (hpn : ∀ p ∈ Xg.pn, ∀ b ∈ fp, p.1 ≠ b) (hex : Xg.ex = fp) (Tn : Turn Xg.prog Xg.w Xg.K tg J fp it tn) (ok : ItOk Xg.K T J W1 ds)
    (pg : DG Xg T tg g is) (pt : DTs Xg T ifs t) (pe : DE Xg T elt fe) (hv : ∀ i ∈ is, i ∈ vs) (q0 : RSl Xg.K W1 sl0 σ0) (hw0 : wipe σ0 vs = σ0) (s₀ s : Shared) (S : Store) (H : Hp) (I : Inv Xg [] σ0 H s) (st : tn 0 s.heap) (hf : ∀ b ∈ fp, H b = none) (sm : Sim Xg.K T W1 S H) (e : gxL w g t fe ds sl0 S = some res) :
      Seg (model Xg.prog Xg.w) A (gxR Xg T w W1 res) (gxY Xg T w W1 res) ds.length s₀ (.compStart (.GeneratorExp elt [⟨tg, iter, ifs, 0⟩] scope pos) 0 (.ref it) .none Xg.env)
        ((model Xg.prog Xg.w).den (.compStart (.GeneratorExp elt [⟨tg, iter, ifs, 0⟩] scope pos) 0 (.ref it) .none Xg.env)) [] s := by
  have loop := gx_loop (iter := iter) (scope := scope) (pos := pos) (res := res) hA hxe hc hco hpn hex Tn ok pg pt pe hv q0 hw0 ds.length 0 ds.length s₀ s W1 S H (Nat.sub_zero _) (Nat.zero_le _) (Nat.le_refl _) I st hf (Wd.le.refl W1) sm e
  show Seg _ A _ _ _ s₀ _ ((compStart (.GeneratorExp elt [⟨tg, iter, ifs, 0⟩] scope pos) 0 (.ref it) .none Xg.env).onRaise (leaving Xg.env)) [] s
  unfold compStart
  rw [Sem.onRaise_eq_wrap]
  show Seg _ A _ _ _ s₀ _ ((ask >>= _).wrap _ _ _ _) [] s
  refine seg_bind_wrap (wpAny_askSetting ?_)
  split
  · exact seg_again rfl loop
  · first
      | exact seg_bind_wrap (wpAny_rule (seg_bind_wrap (wpAny_standAt (seg_bind_wrap (Tn.self _ 0 s _ _ st (seg_again rfl loop))))))
      | (refine seg_bind_wrap (wpAny_rule ?_); show Seg _ A _ _ _ s₀ _ ((standAt iter.pos >>= _).wrap _ _ _ _) [] s; exact seg_bind_wrap (wpAny_standAt (seg_bind_wrap (Tn.self _ 0 s _ _ st (seg_again rfl loop)))))
end

/-! ### all, any walk it -/
/-- what is so behind the walk -/
def GxDone (Xg : Cx) (T : List Addr) (W1 : Wd) (S : Store) (s' : Shared) : Prop := ∃ s₁, GxEnd Xg T W1 S s₁ ∧ s'.os = s₁.os ∧ AllBare s'.gens ∧ ∀ b o, s₁.heap.get? b = some o → s'.heap.get? b = some o
section
variable {Xg : Cx} {T : List Addr} {A : Around} {w : Bool} {W1 : Wd} {res : Bool × Store} {a : Addr} {gn : Nat}
theorem gx_next {Q : Option Value → Shared → Prop} {E : Value → Shared → Prop} {n : Nat} {s : Shared} {gs : GenState} (hh : A.handled = none) (hroom : A.depth < recursionLimit) (hig : ∀ (σ : L2.St) (H : Hp) (s : Shared), Inv Xg [] σ H s → s.heap.IsGen a gn)
    (hI : ∃ σ H, Inv Xg [] σ H s) (hgs : s.gens[gn]? = some gs) (hgo : gs.Goes (model Xg.prog Xg.w) A.in1 (gxR Xg T w W1 res) (gxY Xg T w W1 res) n (.send .none) (s.setGen gn .running))
    (hS : ∀ s', res.1 = w → GxDone Xg T W1 res.2 s' → Q (some (.bool w)) s')
    (hG : ∀ s' gs', (∃ σ H, Inv Xg [] σ H s') → s'.gens[gn]? = some gs' → (∀ s'' : Shared, s''.heap = s'.heap → s''.os = s'.os → AllBare s''.gens → ∃ m, n = m + 1 ∧ gs'.Goes (model Xg.prog Xg.w) A.in1 (gxR Xg T w W1 res) (gxY Xg T w W1 res) m (.send .none) s'') → Q (some (.bool (!w))) s')
    (hE : ∀ s', res.1 = (!w) → GxDone Xg T W1 res.2 s' → Q none s') :
    wpAny (model Xg.prog Xg.w) A (pyNext (.ref a)) Q E s := by
  obtain ⟨σ, H, I⟩ := hI
  have hlt : gn < s.gens.size := by
    rcases Nat.lt_or_ge gn s.gens.size with h' | h'
    · exact h'
    · rw [Array.getElem?_eq_none h'] at hgs; cases hgs
  refine GenW.wpAny_gsz (n := gn + 1) (by omega) ?_
  refine wpAny_pyNext_genexpQ (P := gxP Xg T w W1 res) (Y := gxY Xg T w W1 res) hh I.nolimit hroom (hig σ H s I) hgs hgo (fun v s₁ gs' hb hv => ?_) (fun s₁ hp h' hk => ?_)
  · obtain ⟨b, rfl, ⟨σ', H', I'⟩, h1, h2⟩ := hv
    intro hsz
    have hbr : AllBare (s₁.setGen gn gs').gens := bare_set I'.bare hb
    have hsz' : gn + 1 ≤ s₁.gens.size := by
      rw [GenW.setGen_size] at hsz
      exact hsz
    by_cases hbw : b = w
    · obtain ⟨r1, r2⟩ := h1 hbw
      rw [hbw]
      exact hS _ r1 ⟨s₁, r2, rfl, hbr, fun _ _ e => e⟩
    · have eb : b = !w := by cases b <;> cases w <;> simp_all
      rw [eb]
      refine hG _ gs' ⟨σ', H', Inv.same I' rfl rfl hbr⟩ ?_ fun s'' q1 q2 q3 => (by
        have z := h2 hbw s'' q1 q2 q3
        cases n with
        | zero => exact z.elim
        | succ m => exact ⟨m, rfl, z⟩)
      show (s₁.gens.setIfInBounds gn gs')[gn]? = some gs'
      rw [Array.getElem?_setIfInBounds_self_of_lt (by omega)]
  · intro _
    obtain ⟨r1, r2⟩ := hp
    refine hE _ r1 ⟨s₁, r2, rfl, ?_, hk⟩
    obtain ⟨_, _, _, I', _⟩ := r2
    exact bare_set I'.bare rfl
theorem gx_all {R : Result → Shared → Prop} (hh : A.handled = none) (hroom : A.depth < recursionLimit) (hig : ∀ (σ : L2.St) (H : Hp) (s : Shared), Inv Xg [] σ H s → s.heap.IsGen a gn) (hR : ∀ s', GxDone Xg T W1 res.2 s' → R (.ok (.ret (.bool res.1))) s') :
    ∀ (n : Nat) (s : Shared) (gs : GenState), (∃ σ H, Inv Xg [] σ H s) → s.gens[gn]? = some gs → (∀ s'' : Shared, s''.heap = s.heap → s''.os = s.os → AllBare s''.gens → gs.Goes (model Xg.prog Xg.w) A.in1.in1 (gxR Xg T false W1 res) (gxY Xg T false W1 res) n (.send .none) s'') →
      codeAny (model Xg.prog Xg.w) A (.builtin "all.loop" ⟨[.ref a], []⟩) R s := by
  intro n
  induction n with
  | zero =>
    intro s gs hI hgs hgo
    refine codeAny_builtin F.entry_all_loop ?_
    rw [Around.under_plainId F.plain_all_loop _]
    show wpAny _ A.in1 (pyNext (.ref a) >>= _) _ _ s
    refine wpAny_bind (gx_next (A := A.in1) hh hroom hig hI hgs (hgo _ rfl rfl (bare_set (let ⟨_, _, I⟩ := hI; I.bare) rfl)) (fun s' r1 hd => ?_) (fun s' gs' hI' _ hk => ?_) fun s' r1 hd => ?_)
    · refine wpAny_bind (wpAny_holding (wpAny_truthy_bool ?_))
      refine wpAny_bind (wpAny_letGo ?_)
      first
        | exact wpAny_pure (by have := hR s' hd; rw [r1] at this; exact this)
        | (refine wpAny_bind (wpAny_rule (wpAny_pure ?_)); have := hR s' hd; rw [r1] at this; exact this)
    · obtain ⟨m, z, _⟩ := hk s' rfl rfl (let ⟨_, _, I⟩ := hI'; I.bare)
      cases z
    · refine wpAny_bind (wpAny_rule (wpAny_pure ?_))
      have := hR s' hd
      rw [r1] at this
      exact this
  | succ n ih =>
    intro s gs hI hgs hgo
    refine codeAny_builtin F.entry_all_loop ?_
    rw [Around.under_plainId F.plain_all_loop _]
    show wpAny _ A.in1 (pyNext (.ref a) >>= _) _ _ s
    refine wpAny_bind (gx_next (A := A.in1) hh hroom hig hI hgs (hgo _ rfl rfl (bare_set (let ⟨_, _, I⟩ := hI; I.bare) rfl)) (fun s' r1 hd => ?_) (fun s' gs' hI' hg' hk => ?_) fun s' r1 hd => ?_)
    · refine wpAny_bind (wpAny_holding (wpAny_truthy_bool ?_))
      refine wpAny_bind (wpAny_letGo ?_)
      first
        | exact wpAny_pure (by have := hR s' hd; rw [r1] at this; exact this)
        | (refine wpAny_bind (wpAny_rule (wpAny_pure ?_)); have := hR s' hd; rw [r1] at this; exact this)
    · refine wpAny_bind (wpAny_holding (wpAny_truthy_bool ?_))
      refine wpAny_bind (wpAny_letGo ?_)
      exact wpAny_pure ⟨plainId_quiet F.plain_all_loop _, ih s' gs' hI' hg' fun s'' q1 q2 q3 => (let ⟨m, e, z⟩ := hk s'' q1 q2 q3; by cases e; exact z)⟩
    · refine wpAny_bind (wpAny_rule (wpAny_pure ?_))
      have := hR s' hd
      rw [r1] at this
      exact this
theorem gx_any {R : Result → Shared → Prop} (hh : A.handled = none) (hroom : A.depth < recursionLimit) (hig : ∀ (σ : L2.St) (H : Hp) (s : Shared), Inv Xg [] σ H s → s.heap.IsGen a gn) (hR : ∀ s', GxDone Xg T W1 res.2 s' → R (.ok (.ret (.bool res.1))) s') :
    ∀ (n : Nat) (s : Shared) (gs : GenState), (∃ σ H, Inv Xg [] σ H s) → s.gens[gn]? = some gs → (∀ s'' : Shared, s''.heap = s.heap → s''.os = s.os → AllBare s''.gens → gs.Goes (model Xg.prog Xg.w) A.in1.in1 (gxR Xg T true W1 res) (gxY Xg T true W1 res) n (.send .none) s'') →
      codeAny (model Xg.prog Xg.w) A (.builtin "any.loop" ⟨[.ref a], []⟩) R s := by
  intro n
  induction n with
  | zero =>
    intro s gs hI hgs hgo
    refine codeAny_builtin F.entry_any_loop ?_
    rw [Around.under_plainId F.plain_any_loop _]
    show wpAny _ A.in1 (pyNext (.ref a) >>= _) _ _ s
    refine wpAny_bind (gx_next (A := A.in1) hh hroom hig hI hgs (hgo _ rfl rfl (bare_set (let ⟨_, _, I⟩ := hI; I.bare) rfl)) (fun s' r1 hd => ?_) (fun s' gs' hI' _ hk => ?_) fun s' r1 hd => ?_)
    · refine wpAny_bind (wpAny_holding (wpAny_truthy_bool ?_))
      refine wpAny_bind (wpAny_letGo ?_)
      first
        | exact wpAny_pure (by have := hR s' hd; rw [r1] at this; exact this)
        | (refine wpAny_bind (wpAny_rule (wpAny_pure ?_)); have := hR s' hd; rw [r1] at this; exact this)
    · obtain ⟨m, z, _⟩ := hk s' rfl rfl (let ⟨_, _, I⟩ := hI'; I.bare)
      cases z
    · refine wpAny_bind (wpAny_rule (wpAny_pure ?_))
      have := hR s' hd
      rw [r1] at this
      exact this
  | succ n ih =>
    intro s gs hI hgs hgo
    refine codeAny_builtin F.entry_any_loop ?_
    rw [Around.under_plainId F.plain_any_loop _]
    show wpAny _ A.in1 (pyNext (.ref a) >>= _) _ _ s
    refine wpAny_bind (gx_next (A := A.in1) hh hroom hig hI hgs (hgo _ rfl rfl (bare_set (let ⟨_, _, I⟩ := hI; I.bare) rfl)) (fun s' r1 hd => ?_) (fun s' gs' hI' hg' hk => ?_) fun s' r1 hd => ?_)
    · refine wpAny_bind (wpAny_holding (wpAny_truthy_bool ?_))
      refine wpAny_bind (wpAny_letGo ?_)
      first
        | exact wpAny_pure (by have := hR s' hd; rw [r1] at this; exact this)
        | (refine wpAny_bind (wpAny_rule (wpAny_pure ?_)); have := hR s' hd; rw [r1] at this; exact this)
    · refine wpAny_bind (wpAny_holding (wpAny_truthy_bool ?_))
      refine wpAny_bind (wpAny_letGo ?_)
      exact wpAny_pure ⟨plainId_quiet F.plain_any_loop _, ih s' gs' hI' hg' fun s'' q1 q2 q3 => (let ⟨m, e, z⟩ := hk s'' q1 q2 q3; by cases e; exact z)⟩
    · refine wpAny_bind (wpAny_rule (wpAny_pure ?_))
      have := hR s' hd
      rw [r1] at this
      exact this
end

/-! ### the rule -/
theorem Sim.tabUp {K : PySem.W.Frag} {T : List Addr} {W : Wd} {S : Store} {H : Hp} {P : Addr} {ps ps' : Array Value} (s : Sim K T W S H) (hP : H P = some (.tbl ps)) (ht : TriplesOk ps'.toList) : Sim K T W S (upd H P (.tbl ps')) := by
  have nphi : ∀ a o, W.phi a = some o → a ≠ P := fun a o e z => by
    subst z
    have := s.imm _ _ e
    rw [hP] at this
    cases this
    exact s.knd _ _ e
  refine ⟨s.len, fun a o e => (upd_ne (nphi a o e)).trans (s.imm a o e), fun n c a e m => ?_, s.inj, s.mt, fun P' hP' => ?_, s.knd, fun a o e => ?_, s.pc⟩
  · have q := s.cell n c a e m
    by_cases ha : a = P
    · subst ha
      rw [hP] at q
      cases c with
      | dead => trivial
      | lst ds => obtain ⟨vs, z, _⟩ := q; cases z
      | ins C fs => obtain ⟨dx, vs, z, _⟩ := q; cases z
    · rw [upd_ne ha]; exact q
  · by_cases ha : P' = P
    · subst ha
      exact ⟨ps', upd_same, ht⟩
    · obtain ⟨q, e, z⟩ := s.tab P' hP'
      exact ⟨q, (upd_ne ha).trans e, z⟩
  · obtain ⟨z1, z2, z3⟩ := s.pn a o e
    refine ⟨(upd_ne fun z => ?_).trans z1, z2, z3⟩
    subst z
    rw [hP] at z1
    cases z1
    exact z3 _ rfl

def GxReady (X : Cx) (T : List Addr) (w : Bool) (res : Bool × Store) (Qf : Shared → Prop) (a : Addr) (s5 : Shared) : Prop :=
  ∃ (s4 : Shared) (H3 : Hp) (cenv : Env) (fp : List Addr) (pn : List (Addr × Obj)) (gn : Nat) (gs : GenState) (n : Nat) (W1 : Wd),
    (∃ σ H, Inv (gxC X s4 H3 cenv fp pn) [] σ H s5) ∧ (∀ (σ : L2.St) (H : Hp) (s : Shared), Inv (gxC X s4 H3 cenv fp pn) [] σ H s → s.heap.IsGen a gn) ∧ s5.gens[gn]? = some gs ∧
    (∀ s'' : Shared, s''.heap = s5.heap → s''.os = s5.os → AllBare s''.gens → gs.Goes (model X.prog X.w) X.A.in1.in1 (gxR (gxC X s4 H3 cenv fp pn) T w W1 res) (gxY (gxC X s4 H3 cenv fp pn) T w W1 res) n (.send .none) s'') ∧
    ∀ s', GxDone (gxC X s4 H3 cenv fp pn) T W1 res.2 s' → Qf s'
section
variable {X : Cx} {T : List Addr} {w : Bool} {tg elt iter : Expr} {ifs : List Expr} {scope : Scope} {own : List (Str × Nat)} {fi : FI} {g : GF} {is : List Nat} {t : FT} {fe : FE} {c P : Addr} {gpos : Pos}
theorem gx_eval {pins : List (Addr × Obj)} {s : Shared} {σ : L2.St} {H : Hp} {W : Wd} {S : Store} {sl : Slots} {res : Bool × Store} {Q' : Value → Shared → Prop} {Qf : Shared → Prop}
    (hroom : X.A.depth < recursionLimit) (TB : GxR.TabB X.base X.mg c P) (hT : P ∈ T) (hcode : X.env.code = .ref c) (hc : X.calm = true) (hN : X.N.Nodup) (hi : DI X T tg iter fi) (ok : BlkOk X.N X.env.scope scope own) (hv : ∀ i ∈ is, i ∈ own.map (·.2))
    (hco : scope.isCoroutine = false) (hcell : ∀ y ∈ scope.names, y.2 ≠ .cell) (hdot : scope.names.lookup (".0" : Str) = some NameKind.local)
    (pg : ∀ (s : Shared) (H : Hp) (C : Addr) (code : Value) (fp : List Addr) (pn : List (Addr × Obj)), DG (gxC X s H (gxEnv X scope C code) fp pn) T tg g is)
    (pt : ∀ (s : Shared) (H : Hp) (C : Addr) (code : Value) (fp : List Addr) (pn : List (Addr × Obj)), DTs (gxC X s H (gxEnv X scope C code) fp pn) T ifs t)
    (pe : ∀ (s : Shared) (H : Hp) (C : Addr) (code : Value) (fp : List Addr) (pn : List (Addr × Obj)), DE (gxC X s H (gxEnv X scope C code) fp pn) T elt fe)
    (hs : ∀ v, genFold iter X.env v = pure v) (I : Inv X pins σ H s) (sm : Sim X.K T W S H) (q : RSl X.K W sl σ) (e : ((fi sl S).bind fun p => gxL w g t fe p.1 (wipeD sl (own.map (·.2))) p.2) = some res)
    (hQ : ∀ W' H' s', W.le W' → Sim X.K T W' res.2 H' → Inv X pins σ H' s' → Qf s') (hR : ∀ a s5, GxReady X T w res Qf a s5 → Q' (.ref a) s5) :
    wpAny (model X.prog X.w) X.A (eval (.GeneratorExp elt [⟨tg, iter, ifs, 0⟩] scope gpos) X.env) Q' X.xe s := by
  obtain ⟨⟨ds, S1⟩, e1, e⟩ := bsome e
  have hfree : ∀ y ∈ scope.names, y.2 = .free → ∃ c, X.env.cells.lookup y.1 = some c := fun y hy e => by
    rcases ok.free y hy e with k | k
    · exact I.ok.has _ (.inl k)
    · exact I.ok.has _ (.inr k)
  refine wpAny_GeneratorExp_make hco (closure_ok hfree) hcell hdot ok.kind hroom ?_ hs
  refine thn (hi.run pins s σ H (fun J H' => ∃ W1, W.le W1 ∧ Sim X.K T W1 S1 H' ∧ ItOk X.K T J W1 ds) I ⟨W, S, sl, ds, S1, sm, q, e1, fun W' H' J l s' o => ⟨W', l, s', o⟩⟩) fun xv s1 hx => thn hx fun itv s2 h2 => ?_
  obtain ⟨it, fp, tn, J, H2, rfl, I2, Tn, st2, f2, W1, l1, sm1, iok⟩ := h2
  obtain ⟨ps, hP, ht⟩ := sm1.tab P hT
  have hPs : s2.heap.get? P = some { cls := .none, data := .fields ps } := I2.hok P _ hP
  have cd : PySem.W.CodeHd s2.heap c P := TB.code.keeps fun b u e => I2.bk b u e
  refine ⟨I2.nolimit, ?_⟩
  have cont : ∀ (code : Value) (h3 : Heap) (tk : Nat) (ps' : Array Value), Heap.ExtBut P s2.heap h3 → s2.heap.objs.size ≤ h3.objs.size → h3.get? P = some { cls := .none, data := .fields ps' } → (∃ more, ps' = ps ++ more) → TriplesOk ps'.toList →
      wpAny (model X.prog X.w) X.A (builtinsFor X.env.globals X.env.builtins) (fun bi s₄ => ∀ h', h'.Ns s₄.heap.objs.size (fun y => if y = ".0" then some (Value.ref it) else none) → Heap.SameBut s₄.heap.objs.size (s₄.heap.push { cls := .type "frame", data := .dict #[] }) h' →
          Q' (.ref h'.objs.size) { s₄ with
            gens := s₄.gens.push (.fresh (.compStart (.GeneratorExp elt [⟨tg, iter, ifs, 0⟩] scope gpos) 0 (.ref it) .none (genEnv scope (cloFrom X.env.cells scope.names []) s₄.heap.objs.size code bi X.env))),
            toks := s₄.toks + 1 + 1 + 1,
            heap := h'.push { cls := .type "generator", data := .fields #[.int s₄.gens.size 0, .str "<genexpr>" (s₄.toks + 1), .str (X.env.qual ++ "<genexpr>") (s₄.toks + 1 + 1)] } }) X.xe { s2 with heap := h3, toks := tk } := by
    intro code h3 tk ps' hx hsz hP3 hmore ht3
    obtain ⟨bm, ob, b1, b2, b3, b4, b5, b6, b7, b8⟩ := TB.bm
    have keep3 : ∀ b u, b ≠ P → s2.heap.get? b = some u → h3.get? b = some u := fun b u hb e => hx b u hb e
    refine wpAny_builtinsFor (m := X.mg) (by rw [I2.ok.glob]; exact (I2.mod.glob.keeps I2.bk).extBut hx TB.gP) b1 b2 (keep3 _ _ b4 (I2.bk _ _ b5)) b6 b7 b8 ?_
    intro h' hn' hs'
    obtain ⟨more, em⟩ := hmore
    subst em
    generalize hs4 : ({ s2 with heap := h3, toks := tk } : Shared) = s4
    have e4h : s4.heap = h3 := by rw [← hs4]
    have I3 : Inv X pins σ (upd H2 P (.tbl (ps ++ more))) s4 := by
      rw [← hs4]
      exact GxR.inv_tab (g' := s2.gens) (d' := s2.drawn) I2 hP keep3 hP3 I2.bare
    have hn' : h'.Ns s4.heap.objs.size (fun y => if y = ".0" then some (Value.ref it) else none) := by rw [e4h]; exact hn'
    have hs' : Heap.SameBut s4.heap.objs.size (s4.heap.push { cls := .type "frame", data := .dict #[] }) h' := by rw [e4h]; exact hs'
    have hsz' : h'.objs.size = s4.heap.objs.size + 1 := by rw [hs'.1, Heap.size_push]
    have bP : ∀ b ∈ fp, b ≠ P := fun b hb z => by
      have := (f2 b hb).1
      rw [z, hP] at this
      cases this
    have nH : ∀ b ∈ fp, upd H2 P (.tbl (ps ++ more)) b = none := fun b hb => by
      rw [upd_ne (bP b hb)]
      exact (f2 b hb).1
    have f3 : ∀ b ∈ fp, FpOk X pins (upd H2 P (.tbl (ps ++ more))) b ∧ b < s4.heap.objs.size := fun b hb => by
      obtain ⟨o, eo, _⟩ := Tn.obj _ _ st2 b hb
      exact ⟨⟨nH b hb, (f2 b hb).2⟩, by rw [e4h]; exact Nat.lt_of_lt_of_le (Heap.lt_size eo) hsz⟩
    have main : ∀ (go : Obj) (nm qn : Value) (tk2 : Nat), go.cls = .type "generator" → go.data = .fields #[.int s4.gens.size 0, nm, qn] → go.slots = #[] → (∀ h : Heap, (h.push go).get? h.objs.size = some go) → (∀ h : Heap, ∀ b o, h.get? b = some o → (h.push go).get? b = some o) →
        Q' (.ref h'.objs.size) { s4 with gens := s4.gens.push (.fresh (.compStart (.GeneratorExp elt [⟨tg, iter, ifs, 0⟩] scope gpos) 0 (.ref it) .none (gxEnv X scope s4.heap.objs.size code))), toks := tk2, heap := h'.push go } := by
      intro go nm qn tk2 hgc hgd hgs hgp hgk
      have hgen : ∀ h : Heap, h.get? h'.objs.size = some go → h.IsGen h'.objs.size s4.gens.size := fun h e => ⟨go, nm, qn, e, hgc, hgd, hgs⟩
      have kp : ∀ b o, s4.heap.get? b = some o → (h'.push go).get? b = some o := fun b o e => hgk _ b o (hs'.extBut b o (Nat.ne_of_lt (Heap.lt_size e)) (Heap.get?_push_of_some _ e))
      have b5 : AllBare (s4.gens.push (.fresh (.compStart (.GeneratorExp elt [⟨tg, iter, ifs, 0⟩] scope gpos) 0 (.ref it) .none (gxEnv X scope s4.heap.objs.size code)))) := AllBare.push I3.bare rfl
      have I5 := gx_start (code := code) (it := .ref it) (a := h'.objs.size) (go := go) (s5 := { s4 with gens := s4.gens.push (.fresh (.compStart (.GeneratorExp elt [⟨tg, iter, ifs, 0⟩] scope gpos) 0 (.ref it) .none (gxEnv X scope s4.heap.objs.size code))), toks := tk2, heap := h'.push go }) I3 ok hcell hN f3
        rfl b5 kp (hn'.keeps fun b o e => hgk _ b o e) (by omega) (hgp _) (fun v z => by rw [hgd] at z; cases z)
      have sm3 : Sim X.K T W1 S1 (upd H2 P (.tbl (ps ++ more))) := sm1.tabUp hP ht3
      have st5 : tn 0 (h'.push go) := Tn.keep _ _ _ st2 fun b hb o e => kp b o (by rw [e4h]; exact keep3 b o (bP b hb) e)
      refine hR _ _ ⟨s4, _, gxEnv X scope s4.heap.objs.size code, fp, [(h'.objs.size, go)], s4.gens.size, _, ds.length, W1, ⟨_, _, I5⟩, fun σ' H' s' I' => hgen _ (I'.pin (h'.objs.size, go) (List.mem_append_left _ (List.mem_singleton.mpr rfl))).1, Array.getElem?_push_size .., fun s'' hh ho hb => ⟨rfl, ?_⟩, fun s' hd => ?_⟩
      · refine gx_begin (Xg := gxC X s4 _ (gxEnv X scope s4.heap.objs.size code) fp [(h'.objs.size, go)]) rfl (fun _ _ z => z) hc hco (fun p hp b hb z => ?_) rfl Tn iok (pg _ _ _ _ _ _) (pt _ _ _ _ _ _) (pe _ _ _ _ _ _) hv (wipe_reps (q.mono l1) _) (wipe_wipe _ _) s'' s'' S1 _ (Inv.same I5 hh ho hb) (by rw [hh]; exact st5) nH sm3 e
        rw [List.mem_singleton.mp hp] at z
        have := (f3 b hb).2
        have z : h'.objs.size = b := z
        rw [← z, hsz'] at this
        exact absurd (Nat.lt_trans (Nat.lt_succ_self _) this) (Nat.lt_irrefl _)
      · obtain ⟨s₁, ⟨W', H', σ', I', l', sm'⟩, ho, hb, hk⟩ := hd
        have I7 : Inv X pins σ H' s₁ := I3.call' (ch := fp) I'.os I'.base I'.hok I'.bare fun b hb => ⟨(f3 b hb).1.2.2.2.1, (f3 b hb).1.2.1, (f3 b hb).1.2.2.2.2.1, (f3 b hb).1.2.2.2.2.2⟩
        exact hQ W' H' s' (l1.trans l') sm' (I7.call' (ch := []) ho (Un.kept hk) (I7.hok.kept hk) hb fun _ z => nomatch z)
    subst hs4
    exact main _ _ _ _ rfl rfl rfl (fun h => Heap.get?_push_size _ rfl) fun h b o e => Heap.get?_push_of_some _ e
  cases hf : codeAmong gpos ps.toList with
  | none =>
    refine wpAny_genexprCodeX hcode (cd.code hPs ht) (cd.tab hPs) hf fun c' h' tk hx hge hlt hco' _ htab' _ => ?_
    obtain ⟨o1, vs, f1, tf, fl, tg', inF, tx, tt, op, _, _, _, _, _, _, _, _, _, htr, _⟩ := hco'
    exact cont _ h' tk _ hx (Nat.le_trans hge (Nat.le_of_lt hlt)) htab'.2 ⟨_, rfl⟩ htr
  | some cv =>
    refine wpAny_genexprCode_hit hcode (cd.code hPs ht) hf ?_
    exact cont cv s2.heap s2.toks ps (Heap.ExtBut.refl _ _) (Nat.le_refl _) hPs ⟨#[], by simp⟩ ht

theorem gx_run_all {res : Bool × Store} {Qf : Shared → Prop} {Q : Value → Shared → Prop} {E : Value → Shared → Prop} {a : Addr} {s5 : Shared} (hh : X.A.handled = none) (hroom : X.A.depth < recursionLimit) (h : GxReady X T false res Qf a s5) (hQ : ∀ s', Qf s' → Q (.bool res.1) s') : wpAny (model X.prog X.w) X.A (call (.builtin "all") [.ref a]) Q E s5 := by
  obtain ⟨s4, H3, cenv, fp, pn, gn, gs, n, W1, hI, hig, hgs, hgo, hD⟩ := h
  refine call_function_tree F.kind_all F.plain_all F.entry_all (F.args_all1 _) ?_
  unfold Builtin.«all»
  refine wpAny_bind (m := oneArg "all" _) (wpAny_pure ?_)
  refine wpAny_bind (wpAny_pyIter_gen (let ⟨σ', H', I'⟩ := hI; hig σ' H' s5 I') ?_)
  exact wpAny_pure ⟨plainId_quiet F.plain_all_loop _, gx_all (Xg := gxC X s4 H3 cenv fp pn) (A := X.A) (T := T) (W1 := W1) (res := res) hh hroom hig (fun s' hd => hQ s' (hD s' hd)) n s5 gs hI hgs hgo⟩
theorem gx_run_any {res : Bool × Store} {Qf : Shared → Prop} {Q : Value → Shared → Prop} {E : Value → Shared → Prop} {a : Addr} {s5 : Shared} (hh : X.A.handled = none) (hroom : X.A.depth < recursionLimit) (h : GxReady X T true res Qf a s5) (hQ : ∀ s', Qf s' → Q (.bool res.1) s') : wpAny (model X.prog X.w) X.A (call (.builtin "any") [.ref a]) Q E s5 := by
  obtain ⟨s4, H3, cenv, fp, pn, gn, gs, n, W1, hI, hig, hgs, hgo, hD⟩ := h
  refine call_function_tree F.kind_any F.plain_any F.entry_any (F.args_any1 _) ?_
  unfold Builtin.«any»
  refine wpAny_bind (m := oneArg "any" _) (wpAny_pure ?_)
  refine wpAny_bind (wpAny_pyIter_gen (let ⟨σ', H', I'⟩ := hI; hig σ' H' s5 I') ?_)
  exact wpAny_pure ⟨plainId_quiet F.plain_any_loop _, gx_any (Xg := gxC X s4 H3 cenv fp pn) (A := X.A) (T := T) (W1 := W1) (res := res) hh hroom hig (fun s' hd => hQ s' (hD s' hd)) n s5 gs hI hgs hgo⟩
/-- the scope of a generator expression -/
structure GxOk (N : List Str) (sc scope : Scope) (own : List (Str × Nat)) : Prop where
  blk : BlkOk N sc scope own
  co : scope.isCoroutine = false
  cell : ∀ y ∈ scope.names, y.2 ≠ .cell
  dot : scope.names.lookup (".0" : Str) = some NameKind.local
theorem de_allG {p pos : Pos} {k : Nat} (hr : Room k X.A) (hg : Gl X "all") (hm : X.mg "all" = none) (TB : GxR.TabB X.base X.mg c P) (hT : P ∈ T) (hcode : X.env.code = .ref c) (hc : X.calm = true) (hN : X.N.Nodup) (hi : DI X T tg iter fi) (ok : GxOk X.N X.env.scope scope own) (hv : ∀ i ∈ is, i ∈ own.map (·.2))
    (pg : ∀ (s : Shared) (H : Hp) (C : Addr) (code : Value) (fp : List Addr) (pn : List (Addr × Obj)), DG (gxC X s H (gxEnv X scope C code) fp pn) T tg g is)
    (pt : ∀ (s : Shared) (H : Hp) (C : Addr) (code : Value) (fp : List Addr) (pn : List (Addr × Obj)), DTs (gxC X s H (gxEnv X scope C code) fp pn) T ifs t)
    (pe : ∀ (s : Shared) (H : Hp) (C : Addr) (code : Value) (fp : List Addr) (pn : List (Addr × Obj)), DE (gxC X s H (gxEnv X scope C code) fp pn) T elt fe)
    (hb : bootBuiltins "all" = some (.builtin "all") := by rfl) (hs : ∀ v, genFold iter X.env v = pure v := by intro _; rfl)
    (he : starEach [.GeneratorExp elt [⟨tg, iter, ifs, 0⟩] scope gpos] X.env = (false, eval (.GeneratorExp elt [⟨tg, iter, ifs, 0⟩] scope gpos) X.env) :: starEach [] X.env := by rfl) :
    DE X T (.Call (.Name "all" p) [.GeneratorExp elt [⟨tg, iter, ifs, 0⟩] scope gpos] [] pos) (fGx false fi g t fe (own.map (·.2))) := by
  refine ⟨fun pins s σ H Q I ⟨W, S, sl, d, S', sm, q, e, wq⟩ => ?_⟩
  obtain ⟨⟨ds, S1⟩, e1, e⟩ := bsome e
  obtain ⟨res, e2, e⟩ := bsome e
  cases e
  refine wpAny_Call_Name_kw (ld_blt I hg hm hb ?_)
  refine PyProof.Rows.callWith_builtin1 ?_ he (by rfl)
  rw [he]
  show wpAny _ _ (spliced ((false, eval (.GeneratorExp elt [⟨tg, iter, ifs, 0⟩] scope gpos) X.env) :: backTo pos (starEach [] X.env))) _ _ s
  refine Calls.spliced_cons (gx_eval (w := false) (res := res) (Qf := fun s' => ∃ H', Inv X pins σ H' s' ∧ Q (.bl res.1) H') hr.depth TB hT hcode hc hN hi ok.blk hv ok.co ok.cell ok.dot pg pt pe hs I sm q (by rw [e1]; exact e2) (fun W' H' s' l' sm' I' => ⟨H', I', wq W' H' _ l' sm' rep_bl⟩) fun a s5 hG => ?_)
  refine Calls.spliced_nil ?_
  exact gx_run_all (I.ok.hd hc) hr.depth hG fun s' ⟨H', I', q'⟩ => ⟨.bl res.1, H', I', rfl, q'⟩
theorem de_anyG {p pos : Pos} {k : Nat} (hr : Room k X.A) (hg : Gl X "any") (hm : X.mg "any" = none) (TB : GxR.TabB X.base X.mg c P) (hT : P ∈ T) (hcode : X.env.code = .ref c) (hc : X.calm = true) (hN : X.N.Nodup) (hi : DI X T tg iter fi) (ok : GxOk X.N X.env.scope scope own) (hv : ∀ i ∈ is, i ∈ own.map (·.2))
    (pg : ∀ (s : Shared) (H : Hp) (C : Addr) (code : Value) (fp : List Addr) (pn : List (Addr × Obj)), DG (gxC X s H (gxEnv X scope C code) fp pn) T tg g is)
    (pt : ∀ (s : Shared) (H : Hp) (C : Addr) (code : Value) (fp : List Addr) (pn : List (Addr × Obj)), DTs (gxC X s H (gxEnv X scope C code) fp pn) T ifs t)
    (pe : ∀ (s : Shared) (H : Hp) (C : Addr) (code : Value) (fp : List Addr) (pn : List (Addr × Obj)), DE (gxC X s H (gxEnv X scope C code) fp pn) T elt fe)
    (hb : bootBuiltins "any" = some (.builtin "any") := by rfl) (hs : ∀ v, genFold iter X.env v = pure v := by intro _; rfl)
    (he : starEach [.GeneratorExp elt [⟨tg, iter, ifs, 0⟩] scope gpos] X.env = (false, eval (.GeneratorExp elt [⟨tg, iter, ifs, 0⟩] scope gpos) X.env) :: starEach [] X.env := by rfl) :
    DE X T (.Call (.Name "any" p) [.GeneratorExp elt [⟨tg, iter, ifs, 0⟩] scope gpos] [] pos) (fGx true fi g t fe (own.map (·.2))) := by
  refine ⟨fun pins s σ H Q I ⟨W, S, sl, d, S', sm, q, e, wq⟩ => ?_⟩
  obtain ⟨⟨ds, S1⟩, e1, e⟩ := bsome e
  obtain ⟨res, e2, e⟩ := bsome e
  cases e
  refine wpAny_Call_Name_kw (ld_blt I hg hm hb ?_)
  refine PyProof.Rows.callWith_builtin1 ?_ he (by rfl)
  rw [he]
  show wpAny _ _ (spliced ((false, eval (.GeneratorExp elt [⟨tg, iter, ifs, 0⟩] scope gpos) X.env) :: backTo pos (starEach [] X.env))) _ _ s
  refine Calls.spliced_cons (gx_eval (w := true) (res := res) (Qf := fun s' => ∃ H', Inv X pins σ H' s' ∧ Q (.bl res.1) H') hr.depth TB hT hcode hc hN hi ok.blk hv ok.co ok.cell ok.dot pg pt pe hs I sm q (by rw [e1]; exact e2) (fun W' H' s' l' sm' I' => ⟨H', I', wq W' H' _ l' sm' rep_bl⟩) fun a s5 hG => ?_)
  refine Calls.spliced_nil ?_
  exact gx_run_any (I.ok.hd hc) hr.depth hG fun s' ⟨H', I', q'⟩ => ⟨.bl res.1, H', I', rfl, q'⟩
/-- a def whose code object is known -/
structure FunC (K : PySem.W.Frag) (x qual : Str) (st : Stmt) (f : Addr) (fd : FuncData) (c : Addr) : Prop where
  ex : ∃ (oc : Value) (od : Option Addr) (kV doc pm : Value) (an : Option Addr) (ct : Value) (osl : Array (Option Value)),
    fd = PySem.W.fnOf x qual (defArgs st) (defBody st) (defScope st) .none kV doc pm an (.ref c) ct ∧ K.lookup f = some ⟨oc, od, .func fd, osl⟩ ∧ PySem.W.codeIn K (.ref c) qual = true
  kp : PySem.W.keepIn K (.ref f) = true
theorem funC_mk {K : PySem.W.Frag} {x qual : Str} {st : Stmt} {f c : Addr} {oc : Value} {od an : Option Addr} {osl : Array (Option Value)} {kV doc pm ct : Value} (l : K.lookup f = some ⟨oc, od, .func (PySem.W.fnOf x qual (defArgs st) (defBody st) (defScope st) .none kV doc pm an (.ref c) ct), osl⟩)
    (cc : PySem.W.codeIn K (.ref c) qual = true) (k : PySem.W.keepIn K (.ref f) = true) : FunC K x qual st f (PySem.W.fnOf x qual (defArgs st) (defBody st) (defScope st) .none kV doc pm an (.ref c) ct) c := ⟨⟨oc, od, kV, doc, pm, an, ct, osl, rfl, l, cc⟩, k⟩
theorem FunC.fun {K : PySem.W.Frag} {x qual : Str} {st : Stmt} {f c : Addr} {fd : FuncData} (h : FunC K x qual st f fd c) : Fun K x qual st f fd := by
  obtain ⟨oc, od, kV, doc, pm, an, ct, osl, e, l, cc⟩ := h.ex
  exact ⟨⟨oc, od, kV, doc, pm, an, _, ct, osl, e, l, cc⟩, h.kp⟩
theorem fn_okC {P : Program} {w : World} {K : PySem.W.Frag} {mg : Str → Option Value} {base : Heap} {T : List Addr} {x qual : Str} {st : Stmt} {f c : Addr} {fd : FuncData} {N ps : List Str} {k : Nat} {body : FS} (F : FunC K x qual st f fd c) (Sc : FnScope N ps (defScope st))
    (h : ∀ (A : Around) (outer : List Env) (s : Shared) (H : Hp) (E : XK), Room k (A.deeper (envOfC qual (defScope st) s.heap.objs.size f (.ref c))) → DSs (cxOf CX0 P w K mg base N qual (defScope st) f (.ref c) A outer s H E).nox T (defBody st) body) :
    FnOk P w K mg base CX0 (k + 1) f fd ps (spD K T (fnRun ps.length N.length body)) := by
  obtain ⟨oc, od, kV, doc, pm, an, ct, osl, rfl, lk, hcd⟩ := F.ex
  refine fn_of lk hcd Sc (fun vs H Q E h => ?_) fun A outer s H vs Q E hr hsp => ?_
  · obtain ⟨W, S, ds, r, S', _, q, e, _⟩ := h
    unfold fnRun at e
    split at e
    · rename_i hl
      rw [q.length, hl]
    · cases e
  · obtain ⟨W, S, ds, r, S', sm, q, e, g⟩ := hsp
    refine ⟨_, (h A outer s H E hr).nox, ?_⟩
    unfold fnRun at e
    split at e
    · obtain ⟨⟨fl, sl, S2⟩, e1, e⟩ := bsome e
      refine tDS.mk sm (start_reps q) e1 ?_
      cases fl with
      | ret d => cases e; exact fun W' H' v l s' r' => g W' H' v l s' r'
      | nx => cases e; exact fun W' H' v l s' r' => g W' H' .non l s' rep_non
      | bk => cases e
      | ct => cases e
    · cases e
end
end DL

/-! More of expressions: methods of lists, sets of ints, two clauses, instances. -/
namespace DL
open PySem PySem.Spec PyProof.Rows L2

/-! ### what is never reached -/
def fBad : FE := fun _ _ => none
def sBad : FS := fun _ _ => none
theorem de_bad {X : Cx} {T : List Addr} {e : Expr} : DE X T e fBad := ⟨fun pins s σ H Q I ⟨_, _, _, _, _, _, _, e, _⟩ => nomatch e⟩
theorem ds_bad {X : Cx} {T : List Addr} {e : Stmt} : DS X T e sBad := ⟨fun pins s σ H Q I ⟨_, _, _, _, _, _, _, _, e, _⟩ => nomatch e⟩
theorem dss_bad {X : Cx} {T : List Addr} {e : List Stmt} : DSs X T e sBad := ⟨fun pins s σ H Q I ⟨_, _, _, _, _, _, _, _, e, _⟩ => nomatch e⟩

/-! ### methods of lists -/
section
variable {X : Cx} {T : List Addr} {o e : Expr} {es : List Expr} {fo : FE} {fr : FA} {apos cpos : Pos}
theorem de_append (ho : DE X T o fo) (ha : DA X T (e :: es) fr)
    (hbase : attributeBase o "append" X.env (eval o X.env) = eval o X.env := by rfl)
    (hfew : ((backTo cpos (starEach (e :: es) X.env)).all (fun x => !x.1) && (backToKw cpos (keywordEach [] X.env)).all (fun x => x.1.isSome)
      && decide ((e :: es).length + ([] : List Keyword).length + (if ([] : List Keyword).isEmpty then 0 else 1) < 30)) = true := by rfl)
    (hline : (apos.endLine == cpos.line) = true := by rfl) (hs : starEach (e :: es) X.env = (false, eval e X.env) :: starEach es X.env := by rfl) (hplain : (backTo cpos (starEach es X.env)).any (·.1) = false := by rfl) :
    DE X T (.Call (.Attribute o "append" apos) (e :: es) [] cpos) (fMt mAppend fo fr) := PE.imp (pe_bm PySem.F.plainAttrs_list PySem.F.slot_list_append PySem.F.type_list_append mt_append ho ha hbase hfew hline hs hplain) (mt_okR ok_append)
theorem de_extend (ho : DE X T o fo) (ha : DA X T (e :: es) fr)
    (hbase : attributeBase o "extend" X.env (eval o X.env) = eval o X.env := by rfl)
    (hfew : ((backTo cpos (starEach (e :: es) X.env)).all (fun x => !x.1) && (backToKw cpos (keywordEach [] X.env)).all (fun x => x.1.isSome)
      && decide ((e :: es).length + ([] : List Keyword).length + (if ([] : List Keyword).isEmpty then 0 else 1) < 30)) = true := by rfl)
    (hline : (apos.endLine == cpos.line) = true := by rfl) (hs : starEach (e :: es) X.env = (false, eval e X.env) :: starEach es X.env := by rfl) (hplain : (backTo cpos (starEach es X.env)).any (·.1) = false := by rfl) :
    DE X T (.Call (.Attribute o "extend" apos) (e :: es) [] cpos) (fMt mExtend fo fr) := PE.imp (pe_bm PySem.F.plainAttrs_list PySem.F.slot_list_extend PySem.F.type_list_extend mt_extend ho ha hbase hfew hline hs hplain) (mt_okR ok_extend)
theorem de_popAt (ho : DE X T o fo) (ha : DA X T (e :: es) fr)
    (hbase : attributeBase o "pop" X.env (eval o X.env) = eval o X.env := by rfl)
    (hfew : ((backTo cpos (starEach (e :: es) X.env)).all (fun x => !x.1) && (backToKw cpos (keywordEach [] X.env)).all (fun x => x.1.isSome)
      && decide ((e :: es).length + ([] : List Keyword).length + (if ([] : List Keyword).isEmpty then 0 else 1) < 30)) = true := by rfl)
    (hline : (apos.endLine == cpos.line) = true := by rfl) (hs : starEach (e :: es) X.env = (false, eval e X.env) :: starEach es X.env := by rfl) (hplain : (backTo cpos (starEach es X.env)).any (·.1) = false := by rfl) :
    DE X T (.Call (.Attribute o "pop" apos) (e :: es) [] cpos) (fMt mPopAt fo fr) := PE.imp (pe_bm PySem.F.plainAttrs_list PySem.F.slot_list_pop PySem.F.type_list_pop mt_popAt ho ha hbase hfew hline hs hplain) (mt_okR ok_popAt)
theorem de_pop (ho : DE X T o fo) (hbase : attributeBase o "pop" X.env (eval o X.env) = eval o X.env := by rfl) (hline : (apos.endLine == cpos.line) = true := by rfl) :
    DE X T (.Call (.Attribute o "pop" apos) [] [] cpos) (fMt mPop fo fNil) := PE.imp (pe_bm0 PySem.F.plainAttrs_list PySem.F.slot_list_pop PySem.F.type_list_pop mt_pop ho hbase hline) (mt_okR0 ok_pop)
end

/-! ### list(range(..)) -/
section
variable {X : Cx} {T : List Addr} {a b : Expr} {fa fb : FE} {p p2 pos pos2 : Pos}
def fLRg1 (a : FE) : FE := fun sl S => (a sl S).bind fun q => match q.1 with
  | .int j => if -(2 ^ 62) ≤ j ∧ j ≤ 2 ^ 24 then some (.lst (rng 0 j.toNat), q.2) else none
  | _ => none
theorem rng_rgV {K : PySem.W.Frag} {W : Wd} (lo hi : Int) : Reps K W (rng lo (hi - lo).toNat) (rgV lo hi) := by
  have e : rng lo (hi - lo).toNat = ((List.range (hi - lo).toNat).map fun i => lo + ((i : Nat) : Int)).map D.int := by
    unfold rng
    rw [List.map_map]
    rfl
  have e2 : rgV lo hi = ((List.range (hi - lo).toNat).map fun i => lo + ((i : Nat) : Int)).map V.int := by
    unfold rgV
    rw [List.map_map]
    rfl
  rw [e, e2]
  exact reps_ints _
theorem de_listRg1 (hc : X.calm = true) (hg : Gl X "list") (hm : X.mg "list" = none) (hg2 : Gl X "range") (hm2 : X.mg "range" = none) (ha : DE X T a fa)
    (na : starEach [a] X.env = (false, eval a X.env) :: starEach [] X.env := by rfl) (nb : starEach [.Call (.Name "range" p) [a] [] pos] X.env = (false, eval (.Call (.Name "range" p) [a] [] pos) X.env) :: starEach [] X.env := by rfl) :
    DE X T (.Call (.Name "list" p2) [.Call (.Name "range" p) [a] [] pos] [] pos2) (fLRg1 fa) := by
  refine PE.imp (pe_listRg hc hg hm (prg_1 hg2 hm2 ha na) nb) fun σ H Q ⟨W, S, sl, d, S', s, q, e, w⟩ => ?_
  obtain ⟨⟨x, S1⟩, e1, e⟩ := bsome e
  cases x with
  | int j =>
    dsimp only at e
    split at e
    · rename_i h
      cases e
      refine tD.mk s q e1 fun W1 H1 v1 l1 s1 r1 => ⟨j, by rw [r1.int], ⟨by omega, by omega, by omega, by omega, by omega⟩, fun q' hq => ?_⟩
      have l2 := Wd.add_le (W := W1) (o := .lst (rgV 0 j)) (s1.none hq)
      refine w _ _ _ (l1.trans l2) (s1.new hq (fun q z => by cases z)) (rep_lst Wd.add_at ?_)
      have z := rng_rgV (K := X.K) (W := W1.add q' (.lst (rgV 0 j))) 0 j
      rw [Int.sub_zero] at z
      exact z
    · cases e
  | _ => cases e
end

/-! ### sorted(set(ints)) -/
/-- k put in its place -/
def insU (k : Int) : List Int → List Int
  | [] => [k]
  | x :: r => if k < x then k :: x :: r else if k = x then x :: r else x :: insU k r
def sset (ns : List Int) : List Int := ns.foldr insU []
theorem insU_mem {k j : Int} : ∀ {l : List Int}, j ∈ insU k l ↔ j = k ∨ j ∈ l
  | [] => by simp [insU]
  | x :: r => by
    unfold insU
    split
    · simp
    · split
      · rename_i h
        subst h
        simp
      · have ih := insU_mem (k := k) (j := j) (l := r)
        simp only [List.mem_cons, ih]
        constructor
        · rintro (a | a | a)
          · exact .inr (.inl a)
          · exact .inl a
          · exact .inr (.inr a)
        · rintro (a | a | a)
          · exact .inr (.inl a)
          · exact .inl a
          · exact .inr (.inr a)
theorem insU_lt {k : Int} : ∀ {l : List Int}, l.Pairwise (· < ·) → (insU k l).Pairwise (· < ·)
  | [], _ => by unfold insU; exact List.pairwise_singleton _ _
  | x :: r, h => by
    obtain ⟨h1, h2⟩ := List.pairwise_cons.mp h
    unfold insU
    split
    · rename_i hk
      refine List.pairwise_cons.mpr ⟨fun y hy => ?_, h⟩
      rcases List.mem_cons.mp hy with e | e
      · rw [e]; exact hk
      · have := h1 y e; omega
    · split
      · exact h
      · rename_i a b
        refine List.pairwise_cons.mpr ⟨fun y hy => ?_, insU_lt h2⟩
        rcases insU_mem.mp hy with e | e
        · omega
        · exact h1 y e
theorem sset_mem {j : Int} : ∀ {l : List Int}, j ∈ sset l ↔ j ∈ l
  | [] => by simp [sset]
  | x :: r => by
    have ih := sset_mem (j := j) (l := r)
    show j ∈ insU x (sset r) ↔ _
    rw [insU_mem, ih, List.mem_cons]
theorem sset_lt : ∀ l : List Int, (sset l).Pairwise (· < ·)
  | [] => List.Pairwise.nil
  | x :: r => insU_lt (sset_lt r)
theorem lt_unique : ∀ {l m : List Int}, l.Pairwise (· < ·) → m.Pairwise (· < ·) → (∀ k, k ∈ l ↔ k ∈ m) → l = m
  | [], [], _, _, _ => rfl
  | [], y :: m, _, _, h => absurd ((h y).mpr List.mem_cons_self) (by simp)
  | x :: l, [], _, _, h => absurd ((h x).mp List.mem_cons_self) (by simp)
  | x :: l, y :: m, hl, hm, h => by
    obtain ⟨h1, h2⟩ := List.pairwise_cons.mp hl
    obtain ⟨h3, h4⟩ := List.pairwise_cons.mp hm
    have exy : x = y := by
      rcases List.mem_cons.mp ((h x).mp List.mem_cons_self) with e | e
      · exact e
      · rcases List.mem_cons.mp ((h y).mpr List.mem_cons_self) with e' | e'
        · exact e'.symm
        · have a := h3 x e
          have b := h1 y e'
          omega
    subst exy
    rw [lt_unique h2 h4 fun k => ?_]
    constructor
    · intro hk
      rcases List.mem_cons.mp ((h k).mp (List.mem_cons_of_mem _ hk)) with e | e
      · have := h1 k hk; omega
      · exact e
    · intro hk
      rcases List.mem_cons.mp ((h k).mpr (List.mem_cons_of_mem _ hk)) with e | e
      · have := h3 k hk; omega
      · exact e
section
variable {P : Program} {w : World} {A : Around} {E : Value → Shared → Prop} {s : Shared}
/-- the set object that set.__new__ leaves -/
abbrev freshSet (w : World) : Obj := { cls := .type "set", dict := none, data := .set #[] 0 (.fresh 0 0 (!w.params.followText "set-order")) }
set_option maxHeartbeats 3200000 in
theorem set_of_list {l : Addr} {items : Array Value} {ns : List Int} {Q : Value → Shared → Prop} (hh : A.handled = none) (hl : s.heap.IsList l items) (hit : IntsAre items.toList ns) (hb : ns.length + 1 < scanBound)
    (h : ∀ (h' : Heap) (tk c : Nat), SetR w h' s.heap.objs.size (fun j => decide (j ∈ ns)) c → c ≤ ns.length → (∀ b o, s.heap.get? b = some o → h'.get? b = some o) → Q (.ref s.heap.objs.size) { s with heap := h', toks := tk }) :
    wpAny (model P w) A (call (.type "set") [.ref l]) Q E s := by
  have nz : items.size = ns.length := by rw [← Array.length_toList]; exact IntsAre.length hit
  obtain ⟨_, _, hmro⟩ := F.called_set.mro
  have m1 := F.called_set.made
  have m2 := F.called_set.sub
  refine wpAny_call (codeAny_of_tree ?_)
  show wpAny _ _ (callAny (.type "set") _) _ _ _
  refine wpAny_pure ⟨Code.quiet_builtin _ (by decide +kernel), codeAny_builtin F.entry_type_call ?_⟩
  rw [Around.under_plain (weight_type_call_type "set" [.ref l] []) rfl]
  have m3 := F.called_set.notType
  have m4 := F.called_set.canCreate
  have m5 := F.typeCall_set_1 (.ref l)
  repeat (any_goals (first | assumption | wp_step))
  refine codeAny_mono (code_set_led1 (.ref l) (E := E) (Q₁ := fun ob t => ob = .ref s.heap.objs.size ∧ t = { s with heap := s.heap.push (freshSet w) }) ⟨rfl, rfl⟩) fun r t hr => ?_
  match r, hr with
  | .ok (.ret ob), hr =>
    obtain ⟨rfl, rfl⟩ := hr
    have at_ : (s.heap.push (freshSet w)).get? s.heap.objs.size = some (freshSet w) := Heap.get?_push_size _ rfl
    have ty : Shared.TypeIs { s with heap := s.heap.push (freshSet w) } (.ref s.heap.objs.size) "set" := ⟨_, at_, rfl⟩
    have m6 := F.called_set.init.lookup
    have m7 := F.called_set.init.bind (.ref s.heap.objs.size)
    repeat (any_goals (first | assumption | wp_step))
    refine codeAny_mono (codeAny_call_builtin (R := wants (fun r t => r = .none ∧ ∃ g k c, t = { s with heap := g, toks := k } ∧ SetR w g s.heap.objs.size (fun j => decide (j ∈ ns)) c ∧ c ≤ ns.length ∧ (∀ b o, s.heap.get? b = some o → g.get? b = some o)) E)
      F.called_set.init.plain F.entry_set_init (check_set_init_1 ty ?_)) fun r2 t2 hr2 => ?_
    · obtain ⟨⟨oc, od, dt, osl⟩, ol, hcl, nl, hdl⟩ := hl
      simp only at hcl hdl
      subst hcl; subst hdl
      have ol' : (s.heap.push (freshSet w)).get? l = some { cls := .type "list", dict := od, data := .seq items nl, slots := osl } := Heap.get?_push_of_some _ ol
      have s1 := F.sub_list_set
      have s2 := F.sub_list_frozenset
      have s3 : (Value.type "list" == Value.type "dict") = false := by decide
      have isl : (s.heap.push (freshSet w)).IsList l items := ⟨_, ol', rfl, nl, rfl⟩
      unfold Builtin.«set.__init__» noKeywords Builtin.Frozenset.updateFrom
      generalize hPI : pyIter = PI
      wp_walk
      subst hPI
      refine wpAny_pyIter_list isl ?_
      refine wpAny_bind (wpAny_runValue ?_)
      have lt : l < s.heap.objs.size := Heap.lt_size ol
      have sz : (s.heap.push (freshSet w)).objs.size = s.heap.objs.size + 1 := Heap.size_push _ _
      have n1 : l ≠ (s.heap.push (freshSet w)).objs.size := by rw [sz]; exact Nat.ne_of_lt (Nat.lt_succ_of_lt lt)
      have n2 : s.heap.objs.size ∉ [(s.heap.push (freshSet w)).objs.size, l] := by
        rw [sz]
        intro z
        rcases List.mem_cons.mp z with z | z
        · exact absurd z (Nat.ne_of_lt (Nat.lt_succ_self _))
        · exact absurd (List.mem_singleton.mp z) (Nat.ne_of_gt lt)
      refine set_update_ints ((Walks.list (by simp [hh]) _ l n1 items).toS) s.heap.objs.size n2 ns nz hb (fun i v hv => ?_) items.size 0 _ (Nat.sub_zero _) (Nat.zero_le _)
        ⟨⟨_, Heap.get?_push_size _ rfl, rfl, rfl⟩, (isl.push _)⟩ ⟨0, Nat.le_refl 0, setR_new_at (Heap.get?_push_of_some _ at_)⟩ fun t c hm hc hS => ?_
      · have hi : i < ns.length := by rw [← nz]; exact (Array.getElem?_eq_some_iff.mp hv).1
        obtain ⟨k, e⟩ := PyProof.Rows.IntsAre.int_at hit i v (by rw [Array.getElem?_toList]; exact hv)
        rw [List.getD_eq_getElem?_getD, List.getElem?_eq_getElem hi] at e
        exact ⟨ns[i], k, List.getElem?_eq_getElem hi, e⟩
      · obtain ⟨g, gg, gd, gk, go⟩ := t
        obtain rfl : gg = s.gens := hm.gens
        obtain rfl : gd = s.drawn := hm.drawn
        obtain rfl : go = s.os := hm.os
        show wpAny _ _ _ _ _ _
        refine wpAny_pure ?_
        show wpAny _ _ (ret Value.none) _ _ _
        refine wpAny_pure ⟨rfl, g, gk, c, rfl, hS, by rw [← nz]; exact hc, fun b o e => hm.heap b o (fun z => ?_) (Heap.get?_push_of_some _ (Heap.get?_push_of_some _ e))⟩
        have lb : b < s.heap.objs.size := Heap.lt_size e
        rcases List.mem_cons.mp z with z | z
        · rw [z] at lb; exact Nat.lt_irrefl _ lb
        · have z := List.mem_singleton.mp z
          rw [z, sz] at lb
          exact absurd lb (Nat.not_lt_of_le (Nat.le_succ _))
    · match r2, hr2 with
      | .ok (.ret u), hr2 =>
        obtain ⟨rfl, g, k, c, rfl, hS, hc, hk⟩ := hr2
        repeat (any_goals (first | assumption | wp_step))
        exact h _ _ _ hS hc hk
      | .ok .next, hr2 => exact hr2.elim
      | .ok .brk, hr2 => exact hr2.elim
      | .ok .cont, hr2 => exact hr2.elim
      | .error e, hr2 => exact hr2
  | .ok .next, hr => exact hr.elim
  | .ok .brk, hr => exact hr.elim
  | .ok .cont, hr => exact hr.elim
  | .error e, hr => exact hr
end
def rSetI (K : PySem.W.Frag) (w : World) : List V → Hp → VK → Prop := fun xs H Q => ∃ (l : Addr) (ns : List Int), xs = [V.ref l] ∧ (SqL K H l (ns.map V.int) ∨ SqT K H l (ns.map V.int)) ∧ ns.length < 64 ∧
  ∀ p c, H p = none → c ≤ ns.length → Q (.ref p) (upd H p (SetO w p (fun j => decide (j ∈ ns)) c))
theorem cr_setI {X : Cx} (hc : X.calm = true) : CallR X (.type "set") (rSetI X.K X.w) := by
  intro pins s σ H xs us Q I r h
  obtain ⟨l, ns, rfl, hs, hf, q⟩ := h
  rw [Vals.ref1 r]
  have hb : ns.length + 1 < scanBound := by unfold scanBound; omega
  have fin : ∀ (h' : Heap) (tk c : Nat), SetR X.w h' s.heap.objs.size (fun j => decide (j ∈ ns)) c → c ≤ ns.length → (∀ b o, s.heap.get? b = some o → h'.get? b = some o) → EP X pins σ Q (.ref s.heap.objs.size) { s with heap := h', toks := tk } := fun h' tk c R hc' k =>
    ⟨.ref s.heap.objs.size, _, I.laid (t' := tk) k (Nat.le_refl _) (setO_new R), rfl, q _ c (I.hok.fresh (Nat.le_refl _)) hc'⟩
  rcases hs with hs | hs
  · obtain ⟨its, rv, pl, hz⟩ := I.list hs
    have hi : IntsAre its.toArray.toList ns := ints_of_vals rv
    exact set_of_list (I.ok.hd hc) pl.isList hi hb fin
  · obtain ⟨its, rv, pt, hz⟩ := I.tuple hs
    have hi : IntsAre its.toArray.toList ns := ints_of_vals rv
    exact call_set_tupI ns (I.ok.hd hc) (show s.heap.IsTuple l its.toArray from pt) hi hb fin
def fSSet (a : FE) : FE := fun sl S => (a sl S).bind fun p => (asQ p.2 p.1).bind fun xs => (asInts xs).bind fun ns => if ns.length < 64 then some (.lst ((sset ns).map D.int), p.2) else none
theorem de_sset {X : Cx} {T : List Addr} {e : Expr} {fe : FE} {p p2 pos pos2 : Pos} (hc : X.calm = true) (hg : Gl X "sorted") (hm : X.mg "sorted" = none) (hg2 : Gl X "set") (hm2 : X.mg "set" = none) (he : DE X T e fe)
    (na : starEach [e] X.env = (false, eval e X.env) :: starEach [] X.env := by rfl) (nb : starEach [.Call (.Name "set" p) [e] [] pos] X.env = (false, eval (.Call (.Name "set" p) [e] [] pos) X.env) :: starEach [] X.env := by rfl) :
    DE X T (.Call (.Name "sorted" p2) [.Call (.Name "set" p) [e] [] pos] [] pos2) (fSSet fe) := by
  refine PE.imp (pe_callB (cr_sortedSet hc) hg hm (by rfl) (pa_cons (pe_callTy (cr_setI hc) hg2 hm2 PyProof.Rows.boot_set (pa_cons he pa_nil na) (by decide) (by decide) na (by rfl)) pa_nil nb) (by decide) (by decide) nb (by rfl)) fun σ H Q ⟨W, S, sl, d, S', s, q, e, w⟩ => ?_
  obtain ⟨⟨x, S1⟩, e1, e⟩ := bsome e
  obtain ⟨xs, e2, e⟩ := bsome e
  obtain ⟨ns, e3, e⟩ := bsome e
  dsimp only at e
  split at e
  · rename_i hlt
    cases e
    refine tD.mk s q e1 fun W1 H1 v1 l1 s1 r1 => ?_
    obtain ⟨a, vs, rfl, hs, rv⟩ := asQ_ok s1 r1 e2
    have ex := asInts_some e3
    subst ex
    have ev := rv.ints
    subst ev
    refine ⟨a, ns, rfl, hs, hlt, fun p c hp hc' => ⟨p, _, c, rfl, upd_same, by omega, fun ms p' hms hmem hlen hp' => ?_⟩⟩
    have em : ms = sset ns := lt_unique hms (sset_lt ns) fun k => by rw [hmem k, sset_mem, decide_eq_true_eq]
    subst em
    have hnp : p' ≠ p := fun z => by rw [z, upd_same] at hp'; cases hp'
    have l2 : W1.le (W1.add p (SetO X.w p (fun j => decide (j ∈ ns)) c)) := Wd.add_le (s1.none hp)
    have s2 := s1.new hp (o := SetO X.w p (fun j => decide (j ∈ ns)) c) (fun q z => by cases z)
    have l3 := Wd.add_le (W := W1.add p (SetO X.w p (fun j => decide (j ∈ ns)) c)) (o := .lst ((sset ns).map V.int)) (s2.none hp')
    exact w _ _ _ ((l1.trans l2).trans l3) (s2.new hp' (fun q z => by cases z)) (rep_lst Wd.add_at (reps_ints _))
  · cases e
end DL

/-! Comprehensions of two clauses, instances, the head's facts. -/
namespace DL
open PySem PySem.Spec PyProof.Rows L2

/-! ### two clauses -/
def lc2in (g1 : GF) (t1 : FT) (fe : FE) : List D → Slots → Store → Option (List D × Store) := lcL g1 t1 fe
def lc2L (g : GF) (t : FT) (f1 : FI) (g1 : GF) (t1 : FT) (fe : FE) (vs1 : List Nat) : List D → Slots → Store → Option (List D × Store)
  | [], _, S => some ([], S)
  | d :: ds, sl, S => (g d sl).bind fun sl1 => (t sl1 S).bind fun p => if p.1 then (f1 sl1 p.2).bind fun q => (lcL g1 t1 fe q.1 (wipeD sl1 vs1) q.2).bind fun r => (lc2L g t f1 g1 t1 fe vs1 ds sl r.2).bind fun m => some (r.1 ++ m.1, m.2)
    else lc2L g t f1 g1 t1 fe vs1 ds sl p.2
def fLc2 (f : FI) (g : GF) (t : FT) (f1 : FI) (g1 : GF) (t1 : FT) (fe : FE) (vs vs1 : List Nat) : FE := fun sl S => (f sl S).bind fun p => (lc2L g t f1 g1 t1 fe vs1 p.1 (wipeD sl vs) p.2).bind fun r => if r.1.length ≤ sizeLine then some (.lst r.1, r.2) else none
section
variable {X : Cx} {T : List Addr} {K : PySem.W.Frag}
theorem lc2_ok {fi f1 : FI} {g g1 : GF} {is is1 vs vs1 : List Nat} {t t1 : FT} {fe : FE} {wi w1 : TI} {tg tg1 : TG} {tt tt1 : TT} {te : TE} (hv : ∀ i ∈ is, i ∈ vs) (hv1 : ∀ i ∈ is1, i ∈ vs1) (hi : ∀ σ H R, tDI K T fi σ H R → wi σ H R) (hg : ∀ v σ H Q, tDG K T g is v σ H Q → tg v σ H Q)
    (ht : ∀ σ H Q, tDT K T t σ H Q → tt σ H Q) (hi1 : ∀ σ H R, tDI K T f1 σ H R → w1 σ H R) (hg1 : ∀ v σ H Q, tDG K T g1 is1 v σ H Q → tg1 v σ H Q)
    (ht1 : ∀ σ H Q, tDT K T t1 σ H Q → tt1 σ H Q) (he : ∀ σ H Q, tD K T fe σ H Q → te σ H Q) {W : Wd} {S S' : Store} {sl : Slots} {σ : L2.St} {H : Hp} {Q : VK} {rs : List D} (s : Sim K T W S H) (q : RSl K W sl σ)
    (e : ((fi sl S).bind fun p => lc2L g t f1 g1 t1 fe vs1 p.1 (wipeD sl vs) p.2) = some (rs, S')) (hl : rs.length ≤ sizeLine)
    (w : ∀ W' H' D ws, W.ge W' → W'.pin = upd W.pin D (.lst ws) → W.pin D = none → Sim K T W' S' H' → Reps K W' rs ws → Q (.ref D) H') : tLc2 wi tg tt w1 tg1 tt1 te vs vs1 σ H Q := by
  obtain ⟨⟨ds, S1⟩, e1, e⟩ := bsome e
  refine hi _ _ _ ⟨W, S, sl, ds, S1, s, q, e1, fun W1 H1 J l1 s1 ok => fun D hD => ?_⟩
  have pD := s1.nopin hD
  refine ⟨fun i m H => ∃ W2 S2 ws os more, W1.ge W2 ∧ W2.pin = upd W1.pin D (.lst ws) ∧ Sim K T W2 S2 H ∧ Reps K W2 os ws ∧ i + m = ds.length ∧ lc2L g t f1 g1 t1 fe vs1 (ds.drop i) (wipeD sl vs) S2 = some (more, S') ∧ rs = os ++ more,
    ⟨ds.length, W1.pinned D (.lst []), S1, [], [], rs, Wd.pinned_ge, rfl, s1.pinNew hD (fun q z => by cases z), reps_nil, Nat.zero_add _, e, rfl⟩, ?_⟩
  rintro i m H ⟨W2, S2, ws, os, more, l2, p2, s2, q2, hm, e2, er⟩
  by_cases hlt : i < ds.length
  · refine .inr ⟨ok.go i W2 S2 H hlt l2 s2, fun H' => ∃ W2 S2 ws os more, W1.ge W2 ∧ W2.pin = upd W1.pin D (.lst ws) ∧ Sim K T W2 S2 H' ∧ Reps K W2 os ws ∧ lc2L g t f1 g1 t1 fe vs1 (ds.drop (i + 1)) (wipeD sl vs) S2 = some (more, S') ∧ rs = os ++ more, ?_, fun x H' y => ?_⟩
    · rintro H' ⟨W3, S3, ws3, os3, more3, l3, p3, s3, q3, e3, er3⟩
      exact ⟨m - 1, by omega, W3, S3, ws3, os3, more3, l3, p3, s3, q3, by omega, e3, er3⟩
    · obtain ⟨W3, d, l3, s3, ed, rd⟩ := ok.yld i W2 S2 H x H' hlt l2 s2 y
      obtain ⟨h1, h2⟩ := List.getElem?_eq_some_iff.mp ed
      rw [List.drop_eq_getElem_cons hlt, h2] at e2
      obtain ⟨sl3, e3, e2⟩ := bsome e2
      obtain ⟨⟨k, S4⟩, e4, e2⟩ := bsome e2
      have qw : RSl K W3 (wipeD sl vs) (wipe σ vs) := wipe_reps (RSl.mong (RSl.mong (q.mono l1) l2) l3.toge) vs
      refine hg _ _ _ _ ⟨W3, S2, _, d, sl3, s3, qw, rd, e3, fun σ3 q3 hl3 hn3 => ⟨?_, ht _ _ _ (tDT.mk s3 q3 e4 fun W4 H4 l4 s4 => ?_)⟩⟩
      · rw [wipe_same hl3 fun j hj => hn3 j fun z => hj (hv j z), wipe_wipe]
      · have p4 : W4.pin = upd W1.pin D (.lst ws) := (l4.pin.trans l3.pin).trans p2
        cases k with
        | false => exact iteF ⟨W4, S4, ws, os, more, l2.trans (l3.trans l4).toge, p4, s4, q2.mono (l3.trans l4), e2, er⟩
        | true =>
          obtain ⟨⟨ds1, S5⟩, e5, e2⟩ := bsome e2
          obtain ⟨⟨in1, S6⟩, e6, e2⟩ := bsome e2
          obtain ⟨⟨more6, S7⟩, e7, e2⟩ := bsome e2
          cases e2
          refine iteT (hi1 _ _ _ ⟨W4, S4, sl3, ds1, S5, s4, q3.mono l4, e5, fun W5 H5 J1 l5 s5 ok1 => ?_⟩)
          have q5 : RSl K W5 sl3 σ3 := (q3.mono l4).mono l5
          refine ⟨fun j k H => ∃ W6 S6' ws6 os6 more1, W5.ge W6 ∧ W6.pin = upd W1.pin D (.lst ws6) ∧ Sim K T W6 S6' H ∧ Reps K W6 os6 ws6 ∧ j + k = ds1.length ∧ lcL g1 t1 fe (ds1.drop j) (wipeD sl3 vs1) S6' = some (more1, S6) ∧ rs = os6 ++ (more1 ++ more6),
            ⟨ds1.length, W5, S5, ws, os, in1, Wd.ge.refl W5, l5.pin.trans p4, s5, q2.mono ((l3.trans l4).trans l5), Nat.zero_add _, e6, er⟩, ?_⟩
          rintro j k H ⟨W6, S6', ws6, os6, more1, l6, p6, s6, q6, hk, e6', er6⟩
          by_cases hj : j < ds1.length
          · refine .inr ⟨ok1.go j W6 S6' H hj l6 s6, fun H' => ∃ W6 S6' ws6 os6 more1, W5.ge W6 ∧ W6.pin = upd W1.pin D (.lst ws6) ∧ Sim K T W6 S6' H' ∧ Reps K W6 os6 ws6 ∧ lcL g1 t1 fe (ds1.drop (j + 1)) (wipeD sl3 vs1) S6' = some (more1, S6) ∧ rs = os6 ++ (more1 ++ more6), ?_, fun x1 H' y1 => ?_⟩
            · rintro H' ⟨W7, S7', ws7, os7, more7, l7, p7, s7, q7, e7', er7⟩
              exact ⟨k - 1, by omega, W7, S7', ws7, os7, more7, l7, p7, s7, q7, by omega, e7', er7⟩
            · obtain ⟨W7, d1, l7, s7, ed1, rd1⟩ := ok1.yld j W6 S6' H x1 H' hj l6 s6 y1
              obtain ⟨h3, h4⟩ := List.getElem?_eq_some_iff.mp ed1
              rw [List.drop_eq_getElem_cons hj, h4] at e6'
              obtain ⟨sl7, e8, e6'⟩ := bsome e6'
              obtain ⟨⟨k1, S8⟩, e9, e6'⟩ := bsome e6'
              have qw1 : RSl K W7 (wipeD sl3 vs1) (wipe σ3 vs1) := wipe_reps (RSl.mong (RSl.mong q5 l6) l7.toge) vs1
              refine hg1 _ _ _ _ ⟨W7, S6', _, d1, sl7, s7, qw1, rd1, e8, fun σ7 q7 hl7 hn7 => ⟨?_, ht1 _ _ _ (tDT.mk s7 q7 e9 fun W8 H8 l8 s8 => ?_)⟩⟩
              · rw [wipe_same hl7 fun j hj => hn7 j fun z => hj (hv1 j z), wipe_wipe]
              · have p8 : W8.pin = upd W1.pin D (.lst ws6) := (l8.pin.trans l7.pin).trans p6
                cases k1 with
                | false => exact iteF ⟨W8, S8, ws6, os6, more1, l6.trans (l7.trans l8).toge, p8, s8, q6.mono (l7.trans l8), e6', er6⟩
                | true =>
                  obtain ⟨⟨y9, S9⟩, e10, e6'⟩ := bsome e6'
                  obtain ⟨⟨more9, S10⟩, e11, e6'⟩ := bsome e6'
                  cases e6'
                  refine iteT (he _ _ _ (tD.mk s8 (q7.mono l8) e10 fun W9 H9 v9 l9 s9 r9 => ?_))
                  have p9 : W9.pin = upd W1.pin D (.lst ws6) := l9.pin.trans p8
                  have pd : W9.pin D = some (.lst ws6) := by rw [p9]; exact upd_same
                  have l79 := (l7.trans l8).trans l9
                  refine ⟨ws6, (s9.pn D _ pd).1, ?_, W9.pinned D (.lst (ws6 ++ [v9])), S9, ws6 ++ [v9], os6 ++ [y9], more9, l6.trans (l79.toge.trans Wd.pinned_ge), ?_, s9.pinPut pd (fun q z => by cases z), ?_, e11, ?_⟩
                  · rw [q6.length]
                    rw [er6, List.length_append, List.length_append, List.length_cons] at hl
                    omega
                  · show upd W9.pin D _ = _
                    rw [p9, upd_upd]
                  · exact Reps.mong Wd.pinned_ge ((q6.mono l79).append (reps_cons r9 reps_nil))
                  · rw [er6, List.append_assoc]
                    rfl
          · have hj : j = ds1.length := by omega
            subst hj
            rw [List.drop_length] at e6'
            cases e6'
            exact .inl ⟨ok1.stop W6 _ H l6 s6, W6, _, ws6, os6, more6, (l2.trans (l3.trans (l4.trans l5)).toge).trans l6, p6, s6, q6, e7, er6⟩
  · have hi : i = ds.length := by omega
    subst hi
    rw [List.drop_length] at e2
    cases e2
    rw [List.append_nil] at er
    subst er
    refine .inl ⟨ok.stop W2 _ H l2 s2, w W2 H D ws (l1.toge.trans l2) ?_ ?_ s2 q2⟩
    · rw [p2, l1.pin]
    · rw [← l1.pin]; exact pD
abbrev bC (X : Cx) (s : Shared) (H : Hp) (scope : Scope) (C : Addr) (cl : List (Str × Addr)) (fp : List Addr) : Cx := X.blk s H scope (compEnvC scope cl C X.env) fp
theorem ds_setLc2 {i : Nat} {y : Str} {py : Pos} {elt tgt iter tgt1 iter1 : Expr} {ifs ifs1 : List Expr} {scope : Scope} {own : List (Str × Nat)} {vs1 : List Nat} {pos spos : Pos} {fi f1 : FI} {g g1 : GF} {is is1 : List Nat} {t t1 : FT} {fe : FE} (hc : X.calm = true) (hN : X.N.Nodup) (hy : X.N[i]? = some y) (hyl : X.env.scope.names.lookup y = some .local)
    (hsw : swapsWith (.ListComp elt [⟨tgt, iter, ifs, 0⟩, ⟨tgt1, iter1, ifs1, 0⟩] scope pos) (some (.Name y py)) spos.line X.env = pure true) (hi : DI X T tgt iter fi) (ok : BlkOk X.N X.env.scope scope own) (hv : ∀ i ∈ is, i ∈ own.map (·.2)) (hv1 : ∀ i ∈ is1, i ∈ vs1) (hvo : ∀ i ∈ vs1, i ∈ own.map (·.2))
    (hg : ∀ s H C cl fp, DG (bC X s H scope C cl fp) T tgt g is) (ht : ∀ s H C cl fp, DTs (bC X s H scope C cl fp) T ifs t) (hi1 : ∀ s H C cl fp, DI (bC X s H scope C cl fp) T tgt1 iter1 f1)
    (hg1 : ∀ s H C cl fp, DG (bC X s H scope C cl fp) T tgt1 g1 is1) (ht1 : ∀ s H C cl fp, DTs (bC X s H scope C cl fp) T ifs1 t1) (he : ∀ s H C cl fp, DE (bC X s H scope C cl fp) T elt fe) (hs : ∀ x, foldedSetIterable iter X.env x = pure x := by intro _; rfl) (hs1 : ∀ env x, foldedSetIterable iter1 env x = pure x := by intro _ _; rfl) :
    DS X T (.Assign [.Name y py] (.ListComp elt [⟨tgt, iter, ifs, 0⟩, ⟨tgt1, iter1, ifs1, 0⟩] scope pos) spos) (sSet i (fLc2 fi g t f1 g1 t1 fe (own.map (·.2)) vs1)) := by
  refine PS.imp (ps_setLc2 (wi := tDI X.K T fi) (g := tDG X.K T g is) (tt := tDT X.K T t) (wi1 := tDI X.K T f1) (g1 := tDG X.K T g1 is1) (tt1 := tDT X.K T t1) (te := tD X.K T fe) hc hN hy hyl hsw hi ok hvo hg ht hi1 hg1 ht1 he hs hs1) (set_ok fun σ H Q ⟨W, S, sl, d, S', s, q, e, w⟩ => ?_)
  obtain ⟨⟨ds, S1⟩, e1, e⟩ := bsome e
  obtain ⟨⟨rs, S2⟩, e2, e⟩ := bsome e
  dsimp only at e
  split at e
  · rename_i hl
    cases e
    refine lc2_ok (fi := fi) (f1 := f1) (K := X.K) (T := T) hv hv1 (fun _ _ _ q => q) (fun _ _ _ _ q => q) (fun _ _ _ q => q) (fun _ _ _ q => q) (fun _ _ _ _ q => q) (fun _ _ _ q => q) (fun _ _ _ q => q) s q (by rw [e1]; exact e2) hl fun W' H' D ws l p hn s' r' => ?_
    obtain ⟨s2, l2⟩ := s'.pinStill p hn
    exact w _ H' _ ⟨l.trans l2, rfl⟩ s2 (rep_lst upd_same (Reps.mong l2 r'))
  · cases e
end

/-! ### instances -/
def cellI (S : Store) (n : Nat) : Option (Addr × List (Str × D)) := match S[n]? with
  | some (.ins C fs) => some (C, fs)
  | _ => none
theorem cellI_some {S : Store} {n : Nat} {z : Addr × List (Str × D)} (h : cellI S n = some z) : S[n]? = some (.ins z.1 z.2) := by
  unfold cellI at h
  split at h
  · rename_i e
    cases h
    exact e
  · cases h
def putD (f : Str) (v : D) : List (Str × D) → List (Str × D)
  | [] => [(f, v)]
  | (g, x) :: r => if g = f then (g, v) :: r else (g, x) :: putD f v r
def getD_ (f : Str) : List (Str × D) → Option D
  | [] => none
  | (g, x) :: r => if f = g then some x else getD_ f r
theorem repf_put {K : PySem.W.Frag} {W : Wd} {f : Str} {d : D} {v : V} (h : Rep K W d v) : ∀ {fs : List (Str × D)} {vs : List (Str × V)}, RepF K W fs vs → RepF K W (putD f d fs) (putF f v vs)
  | [], _, e => by
    have e : _ = [] := e
    subst e
    exact ⟨v, [], rfl, h, rfl⟩
  | (g, x) :: r, _, ⟨u, us, e, h1, h2⟩ => by
    subst e
    unfold putD putF
    split
    · exact ⟨v, us, rfl, h, h2⟩
    · exact ⟨u, _, rfl, h1, repf_put h h2⟩
theorem repf_get {K : PySem.W.Frag} {W : Wd} {f : Str} {d : D} : ∀ {fs : List (Str × D)} {vs : List (Str × V)}, RepF K W fs vs → getD_ f fs = some d → ∃ v, vs.lookup f = some v ∧ Rep K W d v
  | [], _, _, e => by cases e
  | (g, x) :: r, _, ⟨u, us, e, h1, h2⟩, eg => by
    subst e
    unfold getD_ at eg
    rw [List.lookup_cons]
    split at eg
    · rename_i h
      subst h
      cases eg
      exact ⟨u, by simp, h1⟩
    · rename_i h
      have hb : (f == g) = false := beq_eq_false_iff_ne.mpr h
      obtain ⟨v, z, rv⟩ := repf_get h2 eg
      exact ⟨v, by rw [show ((g, x).1) = g from rfl, hb]; exact z, rv⟩
theorem repf_none {K : PySem.W.Frag} {W : Wd} {f : Str} : ∀ {fs : List (Str × D)} {vs : List (Str × V)}, RepF K W fs vs → getD_ f fs = none → vs.lookup f = none
  | [], _, e, _ => by
    have e : _ = [] := e
    subst e
    rfl
  | (g, x) :: r, _, ⟨u, us, e, h1, h2⟩, eg => by
    subst e
    unfold getD_ at eg
    rw [List.lookup_cons]
    split at eg
    · cases eg
    · rename_i h
      have hb : (f == g) = false := beq_eq_false_iff_ne.mpr h
      rw [show ((g, x).1) = g from rfl, hb]
      exact repf_none h2 eg
theorem repf_length {K : PySem.W.Frag} {W : Wd} : ∀ {fs : List (Str × D)} {vs : List (Str × V)}, RepF K W fs vs → vs.length = fs.length
  | [], _, e => by
    have e : _ = [] := e
    subst e
    rfl
  | _ :: r, _, ⟨u, us, e, h1, h2⟩ => by
    subst e
    rw [List.length_cons, List.length_cons, repf_length h2]
def fFld (C : Addr) (f : Str) (a : FE) : FE := fun sl S => (a sl S).bind fun p => match p.1 with
  | .ref n => (cellI p.2 n).bind fun z => if z.1 = C then (getD_ f z.2).bind fun d => some (d, p.2) else none
  | _ => none
section
variable {X : Cx} {T : List Addr} {o : Expr} {fo : FE} {C : Addr} {f : Str} {pos : Pos}
theorem cellI_at {K : PySem.W.Frag} {W : Wd} {S : Store} {H : Hp} {n : Nat} {a : Addr} {z : Addr × List (Str × D)} (s : Sim K T W S H) (m : W.mu[n]? = some a) (h : cellI S n = some z) : ∃ dx vs, H a = some (.ins z.1 dx vs) ∧ RepF K W z.2 vs := s.cell n _ a (cellI_some h) m
theorem de_fld (he : DE X T o fo) (c : Cls X.K C) (n : NoAttr X.K C f) (hb : attributeBase o f X.env (eval o X.env) = eval o X.env := by rfl) : DE X T (.Attribute o f pos) (fFld C f fo) := by
  refine PE.imp (pe_fld he hb) fun σ H Q ⟨W, S, sl, d, S', s, q, e, w⟩ => ?_
  obtain ⟨⟨x, S1⟩, e1, e⟩ := bsome e
  cases x with
  | ref k =>
    obtain ⟨z, e2, e⟩ := bsome e
    split at e
    · rename_i hC
      obtain ⟨y, e3, e⟩ := bsome e
      cases e
      refine tD.mk s q e1 fun W1 H1 v1 l1 s1 r1 => ?_
      obtain ⟨a, m, rfl⟩ := r1.ref
      obtain ⟨dx, vs, ha, rv⟩ := cellI_at s1 m e2
      obtain ⟨v, hl, rr⟩ := repf_get rv e3
      rw [hC] at ha
      exact ⟨a, C, dx, vs, v, rfl, ha, c, n, hl, w W1 H1 v l1 s1 rr⟩
    · cases e
  | _ => cases e
/-- o.f = e -/
def sFldD (C : Addr) (f : Str) (a o : FE) : FS := fun sl S => (a sl S).bind fun p => (o sl p.2).bind fun q => match q.1 with
  | .ref n => (cellI q.2 n).bind fun z => if z.1 = C ∧ z.2.length < 1000 then some (.nx, sl, q.2.set n (.ins C (putD f p.1 z.2))) else none
  | _ => none
theorem ds_fld {e : Expr} {fe : FE} {pos' : Pos} (ho : DE X T o fo) (he : DE X T e fe) (c : Cls X.K C) (n : NoAttr X.K C f) (hs : swapsWith e (some (.Attribute o f pos')) pos.line X.env = pure false := by rfl) : DS X T (.Assign [.Attribute o f pos'] e pos) (sFldD C f fe fo) := by
  refine PS.imp (ps_fld ho he hs) fun En σ H ⟨W, S, sl, fl, sl', S', s, q, e, w⟩ => ?_
  obtain ⟨⟨d, S1⟩, e1, e⟩ := bsome e
  obtain ⟨⟨x, S2⟩, e2, e⟩ := bsome e
  cases x with
  | ref k =>
    obtain ⟨z, e3, e⟩ := bsome e
    split at e
    · rename_i hC
      cases e
      refine tD.mk s q e1 fun W1 H1 v1 l1 s1 r1 => tD.mk s1 (q.mono l1) e2 fun W2 H2 v2 l2 s2 r2 => ?_
      obtain ⟨a, m, rfl⟩ := r2.ref
      obtain ⟨dx, vs, ha, rv⟩ := cellI_at s2 m e3
      rw [hC.1] at ha
      exact ⟨a, C, dx, vs, rfl, ha, c, n, by rw [repf_length rv]; exact hC.2, w W2 _ σ (l1.trans l2) (s2.put (cellI_some e3) rfl m ⟨dx, _, rfl, repf_put (r1.mono l2) rv⟩ rfl) (q.mono (l1.trans l2))⟩
    · cases e
  | _ => cases e
/-- o.m(..) -/
def fMeth (C : Addr) (m : Str) (F : FN) (o : FE) (a : FA) : FE := fun sl S => (o sl S).bind fun p => match p.1 with
  | .ref n => (cellI p.2 n).bind fun z => if z.1 = C ∧ getD_ m z.2 = none then (a sl p.2).bind fun q => F (.ref n :: q.1) q.2 else none
  | _ => none
theorem de_meth {k : Nat} {g : Addr} {fd : FuncData} {ps : List Str} {F : FN} {m : Str} {e : Expr} {es : List Expr} {fr : FA} {apos : Pos} {pl : Sem Bool} (ho : DE X T o fo) (c : Cls X.K C) (hm : Meth X.K C m g) (G : FnOk X.prog X.w X.K X.mg X.base CX0 k g fd ps (spD X.K T F)) (hr : Room k X.A) (hb : Binds X.K fd ps []) (ha : DA X T (e :: es) fr)
    (hst : starEach (e :: es) X.env = (false, eval e X.env) :: starEach es X.env := by rfl) (hpl : (backTo pos (starEach es X.env)).any (·.1) = false := by rfl)
    (ht : eval (.Call (.Attribute o m apos) (e :: es) [] pos) X.env = (do
      let ov ← eval o X.env
      standAt apos.atName
      let (f, first) ← holding [ov] (getMethod ov m pl)
      callWith pos f first (backTo pos (starEach (e :: es) X.env)) (backToKw pos (keywordEach [] X.env))) := by rfl) :
    DE X T (.Call (.Attribute o m apos) (e :: es) [] pos) (fMeth C m F fo fr) := by
  refine PE.imp (pe_meth ho c hm G hr hb .nil pass0 ha hst hpl ht) fun σ H Q ⟨W, S, sl, d, S', s, q, e, w⟩ => ?_
  obtain ⟨⟨x, S1⟩, e1, e⟩ := bsome e
  cases x with
  | ref k =>
    obtain ⟨z, e2, e⟩ := bsome e
    split at e
    · rename_i hC
      obtain ⟨⟨ds, S2⟩, e3, e⟩ := bsome e
      refine tD.mk s q e1 fun W1 H1 v1 l1 s1 r1 => ?_
      obtain ⟨a, m1, rfl⟩ := r1.ref
      obtain ⟨dx, vs, ha, rv⟩ := cellI_at s1 m1 e2
      rw [hC.1] at ha
      refine ⟨a, dx, vs, rfl, ha, repf_none rv hC.2, tDA.mk s1 (q.mono l1) e3 fun W2 H2 us l2 s2 r2 => ?_⟩
      rw [List.append_nil]
      exact ⟨W2, S2, .ref k :: ds, d, S', s2, reps_cons (rep_ref (l2.at m1)) r2, e, fun W3 H3 v3 l3 => w W3 H3 v3 ((l1.trans l2).trans l3)⟩
    · cases e
  | _ => cases e
theorem de_meth0 {k : Nat} {g : Addr} {fd : FuncData} {ps : List Str} {F : FN} {m : Str} {apos : Pos} {pl : Sem Bool} (ho : DE X T o fo) (c : Cls X.K C) (hm : Meth X.K C m g) (G : FnOk X.prog X.w X.K X.mg X.base CX0 k g fd ps (spD X.K T F)) (hr : Room k X.A) (hb : Binds X.K fd ps [])
    (ht : eval (.Call (.Attribute o m apos) [] [] pos) X.env = (do
      let ov ← eval o X.env
      standAt apos.atName
      let (f, first) ← holding [ov] (getMethod ov m pl)
      callWith pos f first (backTo pos (starEach [] X.env)) (backToKw pos (keywordEach [] X.env))) := by rfl) :
    DE X T (.Call (.Attribute o m apos) [] [] pos) (fMeth C m F fo fNil) := by
  refine PE.imp (pe_meth0 ho c hm G hr hb .nil pass0 ht) fun σ H Q ⟨W, S, sl, d, S', s, q, e, w⟩ => ?_
  obtain ⟨⟨x, S1⟩, e1, e⟩ := bsome e
  cases x with
  | ref k =>
    obtain ⟨z, e2, e⟩ := bsome e
    split at e
    · rename_i hC
      obtain ⟨⟨ds, S2⟩, e3, e⟩ := bsome e
      cases e3
      refine tD.mk s q e1 fun W1 H1 v1 l1 s1 r1 => ?_
      obtain ⟨a, m1, rfl⟩ := r1.ref
      obtain ⟨dx, vs, ha, rv⟩ := cellI_at s1 m1 e2
      rw [hC.1] at ha
      exact ⟨a, dx, vs, rfl, ha, repf_none rv hC.2, W1, S1, [.ref k], d, S', s1, reps_cons (rep_ref m1) reps_nil, e, fun W3 H3 v3 l3 => w W3 H3 v3 (l1.trans l3)⟩
    · cases e
  | _ => cases e
/-- C(..): a new instance, then __init__ -/
def fMake (C : Addr) (F : FN) (a : FA) : FE := fun sl S => (a sl S).bind fun p => (F (.ref p.2.length :: p.1) (p.2 ++ [.ins C []])).bind fun r => match r.1 with
  | .non => some (.ref p.2.length, r.2)
  | _ => none
theorem de_make {k : Nat} {g : Addr} {fd : FuncData} {ps : List Str} {F : FN} {x : Str} {p : Pos} {e : Expr} {es : List Expr} {fr : FA} (M : Mk X.K C g) (G : FnOk X.prog X.w X.K X.mg X.base CX0 k g fd ps (spD X.K T F)) (hr : Room (k + 1) X.A) (hg : Gl X x) (hm : X.mg x = some (.ref C)) (hb : Binds X.K fd ps []) (ha : DA X T (e :: es) fr)
    (hdb : (x == ("__debug__" : Str)) = false := by decide) (he : starEach (e :: es) X.env = (false, eval e X.env) :: starEach es X.env := by rfl) (hpl : (backTo pos (starEach es X.env)).any (·.1) = false := by rfl) :
    DE X T (.Call (.Name x p) (e :: es) [] pos) (fMake C F fr) := by
  refine PE.imp (pe_make M G hr hg hm hb .nil pass0 ha hdb he hpl) fun σ H Q ⟨W, S, sl, d, S', s, q, e, w⟩ => ?_
  obtain ⟨⟨ds, S1⟩, e1, e⟩ := bsome e
  obtain ⟨⟨y, S2⟩, e2, e⟩ := bsome e
  cases y with
  | non =>
    cases e
    refine tDA.mk s q e1 fun W1 H1 vs l1 s1 r1 => fun a dx na nd hne => ?_
    rw [List.append_nil]
    have s2 := s1.new nd (o := .own a) (fun q z => by cases z)
    have l2 : W1.le (W1.add dx (.own a)) := Wd.add_le (s1.none nd)
    have na2 : upd H1 dx (.own a) a = none := by rw [upd_ne (Ne.symm hne)]; exact na
    have s3 := s2.more na2 (c := .ins C []) (o := .ins C dx []) ⟨dx, [], rfl, rfl⟩ rfl
    have l3 : (W1.add dx (.own a)).le ((W1.add dx (.own a)).more a) := Wd.more_le
    refine ⟨(W1.add dx (.own a)).more a, S1 ++ [.ins C []], .ref S1.length :: ds, .non, _, s3, reps_cons (rep_ref s2.more_at) (r1.mono (l2.trans l3)), e2, fun W4 H4 v4 l4 s4 r4 => ⟨r4.non, w W4 H4 _ (l1.trans ((l2.trans l3).trans l4)) s4 (rep_ref (l4.at s2.more_at))⟩⟩
  | _ => cases e
end

/-! ### from the head's facts -/
theorem funC_of {K : PySem.W.Frag} {x qual : Str} {st : Stmt} {p : Str × Option Str} {fd : FuncData} (F : FunD K x qual (defArgs st) (defBody st) (defScope st) [] [] (He.fAd K p) fd) : FunC K x qual st (He.fAd K p) fd (He.codeOf K p) := by
  obtain ⟨oc, od, dV, kV, doc, pm, an, cdv, ct, osl, e, lk, hc, hd, hk⟩ := F.ex
  obtain ⟨c, rfl⟩ := He.codeIn_ref hc
  have ec : He.codeOf K p = c := He.codeOf_eq lk (by rw [e])
  rcases hd with ⟨_, rfl⟩ | ⟨h, _⟩
  · rw [ec]
    exact ⟨⟨oc, od, kV, doc, pm, an, ct, osl, e, lk, hc⟩, F.kp⟩
  · exact absurd rfl h
end DL

/-! What the printed walks lean on. -/
namespace DL
open PySem PySem.Spec PyProof.Rows L2
theorem hu64 {k : Nat} {A : Around} (r : Room k A) : A.units + 64 < cLine := r.units
theorem hu65 {k : Nat} {A : Around} (r : Room k A) : A.units + 65 < cLine := by have := r.un; omega
/-- a def as it is used -/
def OkD (P : Program) (w : World) (K : PySem.W.Frag) (mg : Str → Option Value) (base : Heap) (T : List Addr) (k : Nat) (p : Str × Option Str) (ps : List Str) (F : FN) : Prop :=
  ∃ fd, FnOk P w K mg base CX0 k (He.fAd K p) fd ps (spD K T F) ∧ Binds K fd ps [] ∧ PySem.W.keepIn K (.ref (He.fAd K p)) = true
section
variable {X : Cx} {T : List Addr} {a b c e : Expr} {fa fb fc fe : FE} {pos p : Pos} {k : Nat}
theorem xAdd (ha : DE X T a fa) (hb : DE X T b fb) : DE X T (.BinOp a .Add b pos) (fOp dAdd fa fb) := de_op op_addAny ok_add ha hb
theorem xSub (ha : DE X T a fa) (hb : DE X T b fb) : DE X T (.BinOp a .Sub b pos) (fOp dSub fa fb) := de_op op_sub ok_sub ha hb
theorem xMul (ha : DE X T a fa) (hb : DE X T b fb) : DE X T (.BinOp a .Mult b pos) (fOp dMul fa fb) := de_op op_mulAny ok_mul ha hb
theorem xMod (ha : DE X T a fa) (hb : DE X T b fb) : DE X T (.BinOp a .Mod b pos) (fOp dMod fa fb) := de_op op_mod ok_mod ha hb
theorem xDiv (ha : DE X T a fa) (hb : DE X T b fb) : DE X T (.BinOp a .FloorDiv b pos) (fOp dFdiv fa fb) := de_op op_fdiv ok_fdiv ha hb
theorem xNeg (ha : DE X T a fa) : DE X T (.UnaryOp .USub a pos) (fUn dNeg fa) := de_un un_neg ok_neg ha
theorem xEq (hr : Room k X.A) (ha : DE X T a fa) (hb : DE X T b fb) : DE X T (.Compare a [.Eq] [b] pos) (fOp dEq fa fb) := de_cmp (op_eqD (hu64 hr)) ok_eq ha hb (nomark _)
theorem xNe (hr : Room k X.A) (ha : DE X T a fa) (hb : DE X T b fb) : DE X T (.Compare a [.NotEq] [b] pos) (fOp dNe fa fb) := de_cmp (op_neD (hu64 hr)) ok_ne ha hb (nomark _)
theorem xLt (hr : Room k X.A) (ha : DE X T a fa) (hb : DE X T b fb) : DE X T (.Compare a [.Lt] [b] pos) (fOp dLt fa fb) := de_cmp (op_ltAny (hu65 hr)) ok_lt ha hb (nomark _)
theorem xLe (ha : DE X T a fa) (hb : DE X T b fb) : DE X T (.Compare a [.LtE] [b] pos) (fOp dLe fa fb) := de_cmp op_le (ok_cmpI _) ha hb (nomark _)
theorem xGt (ha : DE X T a fa) (hb : DE X T b fb) : DE X T (.Compare a [.Gt] [b] pos) (fOp dGt fa fb) := de_cmp op_gt (ok_cmpI _) ha hb (nomark _)
theorem xGe (ha : DE X T a fa) (hb : DE X T b fb) : DE X T (.Compare a [.GtE] [b] pos) (fOp dGe fa fb) := de_cmp op_ge (ok_cmpI _) ha hb (nomark _)
theorem xIs (ha : DE X T a fa) (hb : DE X T b fb) : DE X T (.Compare a [.Is] [b] pos) (fOp dIs fa fb) := de_cmp op_isAny ok_is ha hb (nomark _)
theorem xIsNot (ha : DE X T a fa) (hb : DE X T b fb) : DE X T (.Compare a [.IsNot] [b] pos) (fOp dIsNot fa fb) := de_cmp op_notAny ok_isnot ha hb (nomark _)
theorem xIn (hr : Room k X.A) (ha : DE X T a fa) (hb : DE X T b fb) (hm : behindInMarks .In b = false) : DE X T (.Compare a [.In] [b] pos) (fOp (dInB false) fa fb) := de_cmp (op_inAny (hu65 hr)) (ok_in false) ha hb hm
theorem xNotIn (hr : Room k X.A) (ha : DE X T a fa) (hb : DE X T b fb) (hm : behindInMarks .NotIn b = false) : DE X T (.Compare a [.NotIn] [b] pos) (fOp (dInB true) fa fb) := de_cmp (op_notInAny (hu65 hr)) (ok_in true) ha hb hm
theorem yEq (hr : Room k X.A) (ha : DE X T a fa) (hb : DE X T b fb) : DT X T (.Compare a [.Eq] [b] pos) (fTst (fOp dEq fa fb)) := dt_cmp (op_eqD (hu64 hr)) ok_eq ha hb (nomark _)
theorem yNe (hr : Room k X.A) (ha : DE X T a fa) (hb : DE X T b fb) : DT X T (.Compare a [.NotEq] [b] pos) (fTst (fOp dNe fa fb)) := dt_cmp (op_neD (hu64 hr)) ok_ne ha hb (nomark _)
theorem yLt (hr : Room k X.A) (ha : DE X T a fa) (hb : DE X T b fb) : DT X T (.Compare a [.Lt] [b] pos) (fTst (fOp dLt fa fb)) := dt_cmp (op_ltAny (hu65 hr)) ok_lt ha hb (nomark _)
theorem yLe (ha : DE X T a fa) (hb : DE X T b fb) : DT X T (.Compare a [.LtE] [b] pos) (fTst (fOp dLe fa fb)) := dt_cmp op_le (ok_cmpI _) ha hb (nomark _)
theorem yGt (ha : DE X T a fa) (hb : DE X T b fb) : DT X T (.Compare a [.Gt] [b] pos) (fTst (fOp dGt fa fb)) := dt_cmp op_gt (ok_cmpI _) ha hb (nomark _)
theorem yGe (ha : DE X T a fa) (hb : DE X T b fb) : DT X T (.Compare a [.GtE] [b] pos) (fTst (fOp dGe fa fb)) := dt_cmp op_ge (ok_cmpI _) ha hb (nomark _)
theorem yIs (ha : DE X T a fa) (hb : DE X T b fb) : DT X T (.Compare a [.Is] [b] pos) (fTst (fOp dIs fa fb)) := dt_cmp op_isAny ok_is ha hb (nomark _)
theorem yIsNot (ha : DE X T a fa) (hb : DE X T b fb) : DT X T (.Compare a [.IsNot] [b] pos) (fTst (fOp dIsNot fa fb)) := dt_cmp op_notAny ok_isnot ha hb (nomark _)
theorem yIn (hr : Room k X.A) (ha : DE X T a fa) (hb : DE X T b fb) (hm : behindInMarks .In b = false) : DT X T (.Compare a [.In] [b] pos) (fTst (fOp (dInB false) fa fb)) := dt_cmp (op_inAny (hu65 hr)) (ok_in false) ha hb hm
theorem yNotIn (hr : Room k X.A) (ha : DE X T a fa) (hb : DE X T b fb) (hm : behindInMarks .NotIn b = false) : DT X T (.Compare a [.NotIn] [b] pos) (fTst (fOp (dInB true) fa fb)) := dt_cmp (op_notInAny (hu65 hr)) (ok_in true) ha hb hm
end
/-- o.f, o.g = e, h -/
def sFld2 (C : Addr) (f g : Str) (a b o : FE) : FS := fun sl S => (a sl S).bind fun p => (b sl p.2).bind fun q => (o sl q.2).bind fun r => match r.1 with
  | .ref n => (cellI r.2 n).bind fun z => if z.1 = C ∧ z.2.length < 900 then (o sl (r.2.set n (.ins C (putD f p.1 z.2)))).bind fun r2 => match r2.1 with
      | .ref m => (cellI r2.2 m).bind fun z2 => if z2.1 = C ∧ z2.2.length < 1000 then some (.nx, sl, r2.2.set m (.ins C (putD g q.1 z2.2))) else none
      | _ => none
    else none
  | _ => none
/-- the store of an attribute as a target -/
def gFld (K : PySem.W.Frag) (to : TE) (f : Str) : TG := fun v σ H Q => to σ H fun x H1 => ∃ a C dx fs, x = .ref a ∧ H1 a = some (.ins C dx fs) ∧ Cls K C ∧ NoAttr K C f ∧ fs.length < 1000 ∧ Q σ (upd H1 a (.ins C dx (putF f v fs)))
theorem pg_fld {X : Cx} {o : Expr} {f : Str} {pos : Pos} {to : TE} (ho : PE X o to) : PG X (.Attribute o f pos) (gFld X.K to f) := by
  refine ⟨fun pins s σ H v u Q I r h => ?_⟩
  rw [arm_assign_Attribute]
  refine wpAny_bind (wpAny_holding (thn (ho.run pins s σ H _ I h) fun ov s1 ⟨x, H1, I1, r1, a, C, dx, fs, ex, ea, c, n, l, q⟩ => ?_))
  subst ex
  obtain rfl : ov = Value.ref a := r1
  refine wpAny_bind (wpAny_standAt (wpAny_bind (wpAny_holding (setattr_ok I1 ea c n l r fun s2 I2 => ?_))))
  exact wpAny_release ⟨σ, _, I2, q⟩
theorem ds_fld2 {X : Cx} {T : List Addr} {o o2 a b : Expr} {fo fa fb : FE} {C : Addr} {f g : Str} {p1 p2 tpos vpos pos : Pos} {kt kv : Nat} (hc : X.calm = true) (ho : DE X T o fo) (ho2 : DE X T o2 fo) (ha : DE X T a fa) (hb : DE X T b fb) (c : Cls X.K C) (n1 : NoAttr X.K C f) (n2 : NoAttr X.K C g)
    (h1 : starEach [a, b] X.env = (false, eval a X.env) :: starEach [b] X.env := by rfl) (h2 : starEach [b] X.env = (false, eval b X.env) :: starEach [] X.env := by rfl)
    (hs : swapsWithSole [.Tuple [.Attribute o f p1, .Attribute o2 g p2] kt tpos] (.Tuple [a, b] kv vpos) pos.line X.env = pure false := by rfl) (hw : swappedStores [.Tuple [.Attribute o f p1, .Attribute o2 g p2] kt tpos] (.Tuple [a, b] kv vpos) X.env = pure none := by rfl)
    (h3 : (assignEach [.Tuple [.Attribute o f p1, .Attribute o2 g p2] kt tpos] X.env).map (·.2) = [assign (.Tuple [.Attribute o f p1, .Attribute o2 g p2] kt tpos) X.env] := by rfl)
    (h4 : (assignEach [.Attribute o f p1, .Attribute o2 g p2] X.env).map (·.2) = assign (.Attribute o f p1) X.env :: (assignEach [.Attribute o2 g p2] X.env).map (·.2) := by rfl) (h5 : (assignEach [.Attribute o2 g p2] X.env).map (·.2) = assign (.Attribute o2 g p2) X.env :: (assignEach [] X.env).map (·.2) := by rfl)
    (h6 : (assignEach [.Attribute o f p1, .Attribute o2 g p2] X.env).length = 2 := by rfl) (h7 : (assignEach [.Attribute o f p1, .Attribute o2 g p2] X.env).findIdx? (·.1) = none := by rfl) :
    DS X T (.Assign [.Tuple [.Attribute o f p1, .Attribute o2 g p2] kt tpos] (.Tuple [a, b] kv vpos) pos) (sFld2 C f g fa fb fo) := by
  refine PS.imp (ps_asg (pe_tup (pa_cons ha (pa_cons hb pa_nil h2) h1)) (pg_tup (n := 2) hc (pgs_cons (pg_fld ho) (pgs_cons (pg_fld ho2) pgs_nil h5) h4) h6 h7) hs hw h3) fun En σ H ⟨W, S, sl, fl, sl', S', s, q, e, w⟩ => ?_
  obtain ⟨⟨d1, S1⟩, e1, e⟩ := bsome e
  obtain ⟨⟨d2, S2⟩, e2, e⟩ := bsome e
  obtain ⟨⟨x, S3⟩, e3, e⟩ := bsome e
  cases x with
  | ref n =>
    obtain ⟨z, e4, e⟩ := bsome e
    split at e
    · rename_i hC
      obtain ⟨⟨x2, S4⟩, e5, e⟩ := bsome e
      cases x2 with
      | ref m =>
        obtain ⟨z2, e6, e⟩ := bsome e
        split at e
        · rename_i hC2
          cases e
          refine tD.mk s q e1 fun W1 H1 v1 l1 s1 r1 => tD.mk s1 (q.mono l1) e2 fun W2 H2 v2 l2 s2 r2 => ⟨(show 2 ≤ sizeLine by decide), fun p hp => ?_⟩
          have l3 := Wd.add_le (W := W2) (o := .tup [v1, v2]) (s2.none hp)
          have s3 := s2.new hp (o := .tup [v1, v2]) (fun q z => by cases z)
          refine ⟨p, [v1, v2], rfl, .inl (.inl upd_same), rfl, v1, [v2], rfl, ?_⟩
          refine tD.mk s3 (q.mono ((l1.trans l2).trans l3)) e3 fun W4 H4 v4 l4 s4 r4 => ?_
          obtain ⟨a4, m4, rfl⟩ := r4.ref
          obtain ⟨dx, vs, ha4, rv⟩ := cellI_at s4 m4 e4
          rw [hC.1] at ha4
          refine ⟨a4, C, dx, vs, rfl, ha4, c, n1, by rw [repf_length rv]; omega, v2, [], rfl, ?_⟩
          have s5 := s4.put (cellI_some e4) rfl m4 (c' := .ins C (putD f d1 z.2)) ⟨dx, _, rfl, repf_put (r1.mono (l2.trans (l3.trans l4))) rv⟩ rfl
          refine tD.mk s5 (q.mono (((l1.trans l2).trans l3).trans l4)) e5 fun W6 H6 v6 l6 s6 r6 => ?_
          obtain ⟨a6, m6, rfl⟩ := r6.ref
          obtain ⟨dx6, vs6, ha6, rv6⟩ := cellI_at s6 m6 e6
          rw [hC2.1] at ha6
          have s7 := s6.put (cellI_some e6) rfl m6 (c' := .ins C (putD g d2 z2.2)) ⟨dx6, _, rfl, repf_put (r2.mono (l3.trans (l4.trans l6))) rv6⟩ rfl
          exact ⟨a6, C, dx6, vs6, rfl, ha6, c, n2, by rw [repf_length rv6]; exact hC2.2, rfl, w W6 _ σ (((l1.trans l2).trans l3).trans (l4.trans l6)) s7 (q.mono (((l1.trans l2).trans l3).trans (l4.trans l6)))⟩
        · cases e
      | _ => cases e
    · cases e
  | _ => cases e
end DL

/-! Evaluation of the mirror functions by rewriting. -/
namespace DL
open PySem PySem.Spec PyProof.Rows L2
section
variable {a b c o i : FE} {f g h : FS} {t u : FT} {r : FA} {sl : Slots} {S : Store} {d x y : D} {xs ys ds : List D} {op op' : Op2} {n m k : Nat}
theorem eVar0 : fVar 0 (some d :: sl) S = some (d, S) := rfl
theorem eVarS {z : Option D} : fVar (n + 1) (z :: sl) S = fVar n sl S := rfl
theorem eC : fC d sl S = some (d, S) := rfl
theorem eNil : fNil sl S = some ([], S) := rfl
theorem eCons : fCons a r sl S = (a sl S).bind fun p => (r sl p.2).bind fun q => some (p.1 :: q.1, q.2) := rfl
theorem eOp : fOp op a b sl S = (a sl S).bind fun p => (b sl p.2).bind fun q => (op q.2 p.1 q.1).bind fun r => some (r, q.2) := rfl
theorem eUn {op : Op1} : fUn op a sl S = (a sl S).bind fun p => (op p.2 p.1).bind fun r => some (r, p.2) := rfl
theorem eCB {op : OpN} : fCB op r sl S = (r sl S).bind fun p => (op p.2 p.1).bind fun d => some (d, p.2) := rfl
theorem eTst : fTst a sl S = (a sl S).bind fun p => (match p.1 with | .bl b => some (b, p.2) | _ => none) := rfl
theorem eTru : fTru a sl S = (a sl S).bind fun p => (dTru p.2 p.1).bind fun k => some (k, p.2) := rfl
theorem eNot : fNot t sl S = (t sl S).bind fun p => some (!p.1, p.2) := rfl
theorem eAnd : fAnd t u sl S = (t sl S).bind fun p => if p.1 then u sl p.2 else some (false, p.2) := rfl
theorem eOr : fOr t u sl S = (t sl S).bind fun p => if p.1 then some (true, p.2) else u sl p.2 := rfl
theorem eIfE : fIfE t a b sl S = (t sl S).bind fun p => if p.1 then a sl p.2 else b sl p.2 := rfl
theorem eAndV : fAndV a b sl S = (a sl S).bind fun p => (dTru p.2 p.1).bind fun k => if k then b sl p.2 else some p := rfl
theorem eOrV : fOrV a b sl S = (a sl S).bind fun p => (dTru p.2 p.1).bind fun k => if k then some p else b sl p.2 := rfl
theorem eNotV : fNotV a sl S = (a sl S).bind fun p => (dTru p.2 p.1).bind fun k => some (.bl (!k), p.2) := rfl
theorem eCh : fCh op op' a b c sl S = (a sl S).bind fun p => (b sl p.2).bind fun q => (op q.2 p.1 q.1).bind fun r => (match r with
  | .bl true => (c sl q.2).bind fun z => (op' z.2 q.1 z.1).bind fun d => some (d, z.2)
  | .bl false => some (.bl false, q.2)
  | _ => none) := by
  unfold fCh
  rfl
theorem eTup : fTup r sl S = (r sl S).bind fun p => if p.1.length ≤ sizeLine then some (.tup p.1, p.2) else none := rfl
theorem eLst : fLst r sl S = (r sl S).bind fun p => if p.1.length ≤ sizeLine then some (.lst p.1, p.2) else none := rfl
theorem eLstM : fLstM r sl S = (r sl S).bind fun p => if p.1.length ≤ sizeLine then some (.ref p.2.length, p.2 ++ [.lst p.1]) else none := rfl
theorem eCall {F : FN} : fCall F r sl S = (r sl S).bind fun p => F p.1 p.2 := rfl
theorem eRet : sRet a sl S = (a sl S).bind fun p => some (.ret p.1, sl, p.2) := rfl
theorem eSeq : sSeq f g sl S = (f sl S).bind fun r => (match r with | (.nx, sl', S') => g sl' S' | r => some r) := rfl
theorem eSNil : sNil sl S = some (.nx, sl, S) := rfl
theorem eIf : sIf t f g sl S = (t sl S).bind fun p => if p.1 then f sl p.2 else g sl p.2 := rfl
theorem eSet : sSet n a sl S = (a sl S).bind fun p => some (.nx, sl.set n (some p.1), p.2) := rfl
theorem eAsg {G : GF} : sAsg a G sl S = (a sl S).bind fun p => (G p.1 sl).bind fun sl' => some (.nx, sl', p.2) := rfl
theorem ePar : sPar n m a b sl S = (a sl S).bind fun p => (b sl p.2).bind fun q => some (.nx, (sl.set n (some p.1)).set m (some q.1), q.2) := rfl
theorem ePar3 : sPar3 n m k a b c sl S = (a sl S).bind fun p => (b sl p.2).bind fun q => (c sl q.2).bind fun r => some (.nx, ((sl.set n (some p.1)).set m (some q.1)).set k (some r.1), r.2) := rfl
theorem eExpr : sExpr a sl S = (a sl S).bind fun p => some (.nx, sl, p.2) := rfl
theorem eFor {fi : FI} {G : GF} : sFor fi G f sl S = (fi sl S).bind fun p => forL G f p.1 sl p.2 := rfl
theorem eForN {G : GF} : forL G f [] sl S = some (.nx, sl, S) := rfl
theorem eForC {G : GF} : forL G f (d :: ds) sl S = (G d sl).bind fun sl1 => (f sl1 S).bind fun r => (match r with
    | (.nx, sl', S') => forL G f ds sl' S'
    | (.ct, sl', S') => forL G f ds sl' S'
    | (.bk, sl', S') => some (.nx, sl', S')
    | r => some r) := rfl
theorem eGNm : gNm n d sl = some (sl.set n (some d)) := rfl
theorem eGNl : gNl [] sl = some sl := rfl
theorem eGCs {G : GF} {R : GFs} : gCs G R (d :: ds) sl = (G d sl).bind fun sl' => R ds sl' := rfl
theorem eGTp {R : GFs} : gTp n R (.tup ds) sl = if ds.length = n then R ds sl else none := rfl
theorem eSq : iSeq a sl S = (a sl S).bind fun p => (asS p.1).bind fun ds => some (ds, p.2) := rfl
theorem eAsT : asS (.tup ds) = some ds := rfl
theorem eAsL : asS (.lst ds) = some ds := rfl
theorem eZp : iZp a b sl S = (a sl S).bind fun p => (b sl p.2).bind fun q => (match p.1, q.1 with
  | .tup xs, .tup ys => some (zipD xs ys, q.2)
  | .lst xs, .lst ys => some (zipD xs ys, q.2)
  | _, _ => none) := rfl
def rg1 (x : D) (S : Store) : Option (List D × Store) := match x with | .int j => if -(2 ^ 62) ≤ j ∧ j < 2 ^ 62 then some (rng 0 j.toNat, S) else none | _ => none
def rg2 (x y : D) (S : Store) : Option (List D × Store) := match x, y with | .int i, .int j => if -(2 ^ 62) ≤ i ∧ i < 2 ^ 62 ∧ -(2 ^ 62) ≤ j ∧ j < 2 ^ 62 then some (rng i (j - i).toNat, S) else none | _, _ => none
theorem eR1 : iRng1 a sl S = (a sl S).bind fun p => rg1 p.1 p.2 := rfl
theorem eR2 : iRng2 a b sl S = (a sl S).bind fun p => (b sl p.2).bind fun q => rg2 p.1 q.1 q.2 := rfl
theorem oR1 {j : Int} (h : -4611686018427387904 ≤ j ∧ j < 4611686018427387904) : rg1 (.int j) S = some (rng 0 j.toNat, S) := if_pos (by omega)
theorem oR2 {i j : Int} (h : -4611686018427387904 ≤ i ∧ i < 4611686018427387904 ∧ -4611686018427387904 ≤ j ∧ j < 4611686018427387904) : rg2 (.int i) (.int j) S = some (rng i (j - i).toNat, S) := if_pos (by omega)
theorem eLc {fi : FI} {G : GF} {vs : List Nat} : fLc fi G t a vs sl S = (fi sl S).bind fun p => (lcL G t a p.1 (wipeD sl vs) p.2).bind fun r => if r.1.length ≤ sizeLine then some (.lst r.1, r.2) else none := rfl
theorem eLcN {G : GF} : lcL G t a [] sl S = some ([], S) := rfl
theorem eLcC {G : GF} : lcL G t a (d :: ds) sl S = (G d sl).bind fun sl1 => (t sl1 S).bind fun p => if p.1 then (a sl1 p.2).bind fun q => (lcL G t a ds sl q.2).bind fun r => some (q.1 :: r.1, r.2) else lcL G t a ds sl p.2 := rfl
theorem eYes : fYes sl S = some (true, S) := rfl
theorem eWN : wipeD sl [] = sl := rfl
theorem eWC {v : Nat} {vs : List Nat} : wipeD sl (v :: vs) = (wipeD sl vs).set v none := rfl
theorem eGx {w : Bool} {fi : FI} {G : GF} {vs : List Nat} : fGx w fi G t a vs sl S = (fi sl S).bind fun p => (gxL w G t a p.1 (wipeD sl vs) p.2).bind fun r => some (.bl r.1, r.2) := rfl
theorem eGxN {w : Bool} {G : GF} : gxL w G t a [] sl S = some (!w, S) := rfl
theorem eGxC {w : Bool} {G : GF} : gxL w G t a (d :: ds) sl S = (G d sl).bind fun sl1 => (t sl1 S).bind fun p => if p.1 then (a sl1 p.2).bind fun q => (match q.1 with
      | .bl b => if b = w then some (w, q.2) else gxL w G t a ds sl q.2
      | _ => none)
    else gxL w G t a ds sl p.2 := rfl
theorem eRun {F : FS} : fnRun n m F ds S = if ds.length = n then (F (dstart m ds) S).bind fun r => (match r with
    | (.ret d, _, S') => some (d, S')
    | (.nx, _, S') => some (.non, S')
    | _ => none) else none := rfl
theorem eStart : dstart m ds = ds.map some ++ List.replicate (m - ds.length) none := rfl
-- operators
theorem oAdd {p q : Int} : dAdd S (.int p) (.int q) = some (.int (p + q)) := rfl
theorem oSub {p q : Int} : dSub S (.int p) (.int q) = some (.int (p - q)) := rfl
theorem oNeg {p : Int} : dNeg S (.int p) = some (.int (-p)) := rfl
theorem oMul {p q : Int} (h : -18446744073709551616 < p ∧ p < 18446744073709551616 ∨ -18446744073709551616 < q ∧ q < 18446744073709551616) : dMul S (.int p) (.int q) = some (.int (p * q)) := by
  rw [dMul_int]
  exact if_pos (by unfold CMul; omega)
theorem oMod {p q : Int} (h : 0 < q) : dMod S (.int p) (.int q) = some (.int (p % q)) := if_pos h
theorem oDiv {p q : Int} (h : 0 < q ∧ q < 1073741824) : dFdiv S (.int p) (.int q) = some (.int (p / q)) := if_pos h
theorem oLeT {p q : Int} (h : p ≤ q) : dLe S (.int p) (.int q) = some (.bl true) := by show some (D.bl (decide (p ≤ q))) = _; rw [decide_eq_true h]
theorem oLeF {p q : Int} (h : ¬ p ≤ q) : dLe S (.int p) (.int q) = some (.bl false) := by show some (D.bl (decide (p ≤ q))) = _; rw [decide_eq_false h]
theorem oGtT {p q : Int} (h : q < p) : dGt S (.int p) (.int q) = some (.bl true) := by show some (D.bl (decide (q < p))) = _; rw [decide_eq_true h]
theorem oGtF {p q : Int} (h : ¬ q < p) : dGt S (.int p) (.int q) = some (.bl false) := by show some (D.bl (decide (q < p))) = _; rw [decide_eq_false h]
theorem oGeT {p q : Int} (h : q ≤ p) : dGe S (.int p) (.int q) = some (.bl true) := by show some (D.bl (decide (q ≤ p))) = _; rw [decide_eq_true h]
theorem oGeF {p q : Int} (h : ¬ q ≤ p) : dGe S (.int p) (.int q) = some (.bl false) := by show some (D.bl (decide (q ≤ p))) = _; rw [decide_eq_false h]
theorem oLtT {p q : Int} (h : p < q) : dLt S (.int p) (.int q) = some (.bl true) := by show some (D.bl (decide (p < q))) = _; rw [decide_eq_true h]
theorem oLtF {p q : Int} (h : ¬ p < q) : dLt S (.int p) (.int q) = some (.bl false) := by show some (D.bl (decide (p < q))) = _; rw [decide_eq_false h]
theorem dEq_i {p q : Int} : dEq S (.int p) (.int q) = some (.bl (p == q)) := by
  show (some (PyData.int p)).bind (fun a => (some (PyData.int q)).bind fun b => _) = _
  rw [Option.bind_some, Option.bind_some, if_pos (show (SeqAt.shaped (PyData.int p) && SeqAt.shaped (PyData.int q)) = true from rfl)]
  rfl
theorem dNe_i {p q : Int} : dNe S (.int p) (.int q) = some (.bl (!(p == q))) := by
  show (some (PyData.int p)).bind (fun a => (some (PyData.int q)).bind fun b => _) = _
  rw [Option.bind_some, Option.bind_some, if_pos (show (SeqAt.shaped (PyData.int p) && SeqAt.shaped (PyData.int q)) = true from rfl)]
  rfl
theorem oEqT {p q : Int} (h : p = q) : dEq S (.int p) (.int q) = some (.bl true) := by rw [dEq_i, h, beq_self_eq_true]
theorem oEqF {p q : Int} (h : ¬ p = q) : dEq S (.int p) (.int q) = some (.bl false) := by rw [dEq_i, beq_eq_false_iff_ne.mpr h]
theorem oNeT {p q : Int} (h : ¬ p = q) : dNe S (.int p) (.int q) = some (.bl true) := by rw [dNe_i, beq_eq_false_iff_ne.mpr h]; rfl
theorem oNeF {p q : Int} (h : p = q) : dNe S (.int p) (.int q) = some (.bl false) := by rw [dNe_i, h, beq_self_eq_true]; rfl
theorem oEqB {p q : Bool} : dEq S (.bl p) (.bl q) = some (.bl (p == q)) := by cases p <;> cases q <;> rfl
theorem oNeB {p q : Bool} : dNe S (.bl p) (.bl q) = some (.bl (!(p == q))) := by cases p <;> cases q <;> rfl
theorem oIsN : dIs S x .non = some (.bl (isNon x)) := dIs_non
theorem oIsNotN : dIsNot S x .non = some (.bl (!isNon x)) := dIsNot_non
theorem iN1 : isNon .non = true := rfl
theorem iN2 {p : Int} : isNon (.int p) = false := rfl
theorem iN3 {l : List D} : isNon (.tup l) = false := rfl
theorem oIsNotTT : dIsNot S (.bl true) (.bl true) = some (.bl false) := rfl
theorem oTB {p : Bool} : dTru S (.bl p) = some p := rfl
theorem oIxT {p : Int} : dIx S (.tup xs) (.int p) = atI xs p := rfl
theorem oIxL {p : Int} : dIx S (.lst xs) (.int p) = atI xs p := rfl
theorem oIxR {p : Int} : dIx S (.ref n) (.int p) = (cellL S n).bind fun xs => atI xs p := rfl
theorem at0 {α : Type} {x : α} {xs : List α} : atI (x :: xs) 0 = some x := atI_nat (j := 0) rfl
theorem at1 {α : Type} {x y : α} {xs : List α} : atI (x :: y :: xs) 1 = some y := atI_nat (j := 1) rfl
theorem at2 {α : Type} {x y z : α} {xs : List α} : atI (x :: y :: z :: xs) 2 = some z := atI_nat (j := 2) rfl
theorem at3 {α : Type} {x y z w : α} {xs : List α} : atI (x :: y :: z :: w :: xs) 3 = some w := atI_nat (j := 3) rfl
theorem at4 {α : Type} {x y z w v : α} {xs : List α} : atI (x :: y :: z :: w :: v :: xs) 4 = some v := atI_nat (j := 4) rfl
theorem at5 {α : Type} {x y z w v u : α} {xs : List α} : atI (x :: y :: z :: w :: v :: u :: xs) 5 = some u := atI_nat (j := 5) rfl
theorem at6 {α : Type} {x y z w v u t : α} {xs : List α} : atI (x :: y :: z :: w :: v :: u :: t :: xs) 6 = some t := atI_nat (j := 6) rfl
theorem atLast {α : Type} {xs : List α} {y : α} : atI (xs ++ [y]) (-1) = some y := atI_last _ _
theorem atm1 {α : Type} {x : α} : atI [x] (-1) = some x := atI_last [] x
theorem atm2 {α : Type} {x y : α} : atI [x, y] (-1) = some y := atI_last [x] y
theorem atm4 {α : Type} {x y z w : α} : atI [x, y, z, w] (-1) = some w := atI_last [x, y, z] w
theorem oLenT : one dLen S [.tup xs] = some (.int xs.length) := rfl
theorem oLenL : one dLen S [.lst xs] = some (.int xs.length) := rfl
theorem oIntI {p : Int} : one dInt S [.int p] = some (.int p) := rfl
theorem oTupL : one dTuple S [.lst xs] = some (.tup xs) := rfl
theorem oTupT : one dTuple S [.tup xs] = some (.tup xs) := rfl
theorem oListT : one dList S [.tup xs] = some (.lst xs) := rfl
theorem oMaxL {p q : Int} (h : q ≤ p) : two dMax2 S [.int p, .int q] = some (.int p) := by show some (D.int (if q > p then q else p)) = _; rw [if_neg (by omega)]
theorem oMaxR {p q : Int} (h : p < q) : two dMax2 S [.int p, .int q] = some (.int q) := by show some (D.int (if q > p then q else p)) = _; rw [if_pos (by omega)]
theorem oCatL (h : xs.length + ys.length ≤ 16777216) : dAdd S (.lst xs) (.lst ys) = some (.lst (xs ++ ys)) := by rw [dAdd_lst, if_pos (by rw [sizeLine_eq]; exact h)]
theorem oCatT (h : xs.length + ys.length ≤ 16777216) : dAdd S (.tup xs) (.tup ys) = some (.tup (xs ++ ys)) := by rw [dAdd_tup, if_pos (by rw [sizeLine_eq]; exact h)]
theorem rng0 {lo : Int} : rng lo 0 = [] := rfl
theorem rngS {lo : Int} : rng lo (n + 1) = .int lo :: rng (lo + 1) n := by
  unfold rng
  rw [List.range_succ_eq_map, List.map_cons, List.map_map]
  congr 1
  · simp
  · apply List.map_congr_left
    intro i _
    show D.int (lo + ((i + 1 : Nat) : Int)) = D.int (lo + 1 + (i : Nat))
    congr 1
    omega
theorem zipN : zipD [] ys = [] := rfl
theorem zipN2 : zipD xs [] = [] := by cases xs <;> rfl
theorem zipC : zipD (x :: xs) (y :: ys) = .tup [x, y] :: zipD xs ys := rfl
-- isinstance
theorem eIsi {c : String} : fIsi c a sl S = (a sl S).bind fun p => (tyD p.2 p.1).bind fun t => (kitB t c).bind fun b => some (.bl b, p.2) := rfl
theorem tyI {p : Int} : tyD S (.int p) = some "int" := rfl
theorem tyT : tyD S (.tup xs) = some "tuple" := rfl
theorem tyN : tyD S .non = some "NoneType" := rfl
theorem tyB {p : Bool} : tyD S (.bl p) = some "bool" := rfl
theorem kII : kitB "int" "int" = some true := by decide +kernel
theorem kIB : kitB "int" "bool" = some false := by decide +kernel
theorem kIT : kitB "int" "tuple" = some false := by decide +kernel
theorem kIL : kitB "int" "list" = some false := by decide +kernel
theorem kTT : kitB "tuple" "tuple" = some true := by decide +kernel
-- cells
theorem eSetIx : sSetIx a o i sl S = (a sl S).bind fun p => (o sl p.2).bind fun q => (i sl q.2).bind fun r => (match q.1, r.1 with
  | .ref n, .int k => (cellL r.2 n).bind fun l => (ixN l.length k).bind fun j => some (.nx, sl, r.2.set n (.lst (l.set j p.1)))
  | _, _ => none) := rfl
theorem eSl {lo hi : FO} : fSl a lo hi sl S = (a sl S).bind fun p => (lo sl p.2).bind fun l => (hi sl l.2).bind fun h => (dSl l.1 h.1 h.2 p.1).bind fun d => some (d, h.2) := rfl
theorem eNo : fNo sl S = some (none, S) := rfl
theorem ePart : fPart a sl S = (a sl S).bind fun p => (match p.1 with | .int i => some (some i, p.2) | _ => none) := rfl
theorem oSl1 {x : D} : dSl (some 1) none S (.tup (x :: xs)) = some (.tup xs) := by
  show some (D.tup (cutD (x :: xs) (some 1) none)) = _
  unfold cutD
  rw [show HT.sIx (x :: xs).length 0 (some 1) = min 1 (x :: xs).length from HT.sIx_nat (x :: xs).length 0 1, HT.sIx_none]
  rw [show min 1 (x :: xs).length = 1 by rw [List.length_cons]; omega]
  show some (D.tup (List.take ((x :: xs).length - 1) xs)) = _
  rw [List.length_cons, Nat.add_sub_cancel, List.take_length]
theorem eMt {op : MOp} : fMt op o r sl S = (o sl S).bind fun p => (match p.1 with
  | .ref n => (cellL p.2 n).bind fun _ => (r sl p.2).bind fun q => op q.2 n q.1
  | _ => none) := rfl
theorem eAppend {x : D} : mAppend S n [x] = (cellL S n).bind fun l => if l.length < sizeLine then some (.non, S.set n (.lst (l ++ [x]))) else none := rfl
theorem eRetF : sRetF a sl S = (a sl S).bind fun p => (match p.1 with
  | .ref n => (cellL p.2 n).bind fun xs => some (.ret (.lst xs), sl, p.2.set n .dead)
  | d => some (.ret d, sl, p.2)) := rfl
theorem cellEnd : cellL (S ++ [.lst xs]) S.length = some xs := by unfold cellL; rw [List.getElem?_append_right (Nat.le_refl _), Nat.sub_self]; rfl
theorem setEnd {α : Type} {l : List α} {c c' : α} : (l ++ [c]).set l.length c' = l ++ [c'] := by rw [List.set_append_right _ _ (Nat.le_refl _), Nat.sub_self]; rfl
theorem ixm {n : Nat} : ixN (n + 1) (-1) = some n := by
  unfold ixN
  rw [if_neg (by omega), if_pos (by omega)]
  congr 1
  omega
theorem ix31 : ixN 3 1 = some 1 := rfl
theorem ix32 : ixN 3 2 = some 2 := rfl
theorem atm3 {α : Type} {x y z : α} : atI [x, y, z] (-1) = some z := atI_last [x, y] z
theorem atm5 {α : Type} {x y z w v : α} : atI [x, y, z, w, v] (-1) = some v := atI_last [x, y, z, w] v
theorem toPys_ints : ∀ l : List Int, toPys (l.map D.int) = some (l.map PyData.int)
  | [] => by simp [toPys]
  | a :: r => by
    rw [List.map_cons, List.map_cons]
    unfold toPys
    rw [toPys_ints r]
    simp [toPy]
theorem lay_ints : ∀ l : List Int, PyData.canLayAll0 (l.map PyData.int) = true
  | [] => by unfold PyData.canLayAll0; rfl
  | a :: r => by rw [List.map_cons]; unfold PyData.canLayAll0; rw [lay_ints r]; unfold PyData.canLay0; rfl
theorem KE_depth : ∀ l : List Int, PyData.depthAll (l.map PyData.int) = 0
  | [] => by unfold PyData.depthAll; rfl
  | a :: r => by rw [List.map_cons]; unfold PyData.depthAll; rw [KE_depth r]; unfold PyData.depth; rfl
/-- a row of three: an int, an int or None, an int -/
def rw3 : D → Bool
  | .tup [.int _, .int _, .int _] => true
  | .tup [.int _, .non, .int _] => true
  | _ => false
theorem rw3_py {d : D} (h : rw3 d = true) : ∃ p, toPy d = some p ∧ PyData.canLay0 p = true ∧ PyData.depth p ≤ 1 := by
  unfold rw3 at h
  split at h
  · exact ⟨_, rfl, by simp [PyData.canLay0, PyData.canLayAll0], by simp [PyData.depth, PyData.depthAll]⟩
  · exact ⟨_, rfl, by simp [PyData.canLay0, PyData.canLayAll0], by simp [PyData.depth, PyData.depthAll]⟩
  · cases h
theorem rows_py : ∀ {l : List D}, l.all rw3 = true → ∃ ps, toPys l = some ps ∧ PyData.canLayAll0 ps = true ∧ PyData.depthAll ps ≤ 1 ∧ ps.isEmpty = l.isEmpty
  | [], _ => ⟨[], by unfold toPys; rfl, by unfold PyData.canLayAll0; rfl, by unfold PyData.depthAll; exact Nat.zero_le _, rfl⟩
  | d :: r, h => by
    rw [List.all_cons, Bool.and_eq_true] at h
    obtain ⟨p, e1, e2, e3⟩ := rw3_py h.1
    obtain ⟨ps, f1, f2, f3, _⟩ := rows_py h.2
    refine ⟨p :: ps, by unfold toPys; rw [e1, f1]; rfl, by unfold PyData.canLayAll0; rw [e2, f2]; rfl, by unfold PyData.depthAll; omega, rfl⟩
theorem oNeR {l : List D} (h : l.all rw3 = true) : dNe (S ++ [.lst l]) (.ref S.length) (.lst []) = some (.bl (!l.isEmpty)) := by
  obtain ⟨ps, f1, f2, f3, f4⟩ := rows_py h
  have e1 : asPy (S ++ [.lst l]) (.ref S.length) = some (.list ps) := by
    show (cellL _ _).bind _ = _
    rw [cellEnd, Option.bind_some, f1]
    rfl
  have e2 : asPy (S ++ [.lst l]) (.lst []) = some (.list []) := by
    show toPy _ = _
    unfold toPy toPys
    rfl
  unfold dNe
  rw [e1, Option.bind_some, e2, Option.bind_some, if_pos]
  · rw [← f4]
    cases ps <;> rfl
  · rw [Bool.and_eq_true]
    refine ⟨?_, rfl⟩
    unfold SeqAt.shaped
    rw [Bool.and_eq_true]
    exact ⟨by unfold PyData.canLay0; exact f2, decide_eq_true (by unfold PyData.depth; omega)⟩
theorem oNeR0 : dNe (S ++ [.lst []]) (.ref S.length) (.lst []) = some (.bl false) := oNeR rfl
theorem r3a {p q r : Int} : rw3 (.tup [.int p, .int q, .int r]) = true := rfl
theorem r3b {p r : Int} : rw3 (.tup [.int p, .non, .int r]) = true := rfl
theorem rw3_below {d : D} (h : rw3 d = true) (n : Nat) : dBelow n d = true := by
  unfold rw3 at h
  split at h
  · simp [dBelow, dBelows]
  · simp [dBelow, dBelows]
  · cases h
theorem rows_below (n : Nat) : ∀ {l : List D}, l.all rw3 = true → dBelows n l = true
  | [], _ => by unfold dBelows; rfl
  | d :: r, h => by
    rw [List.all_cons, Bool.and_eq_true] at h
    unfold dBelows
    rw [rw3_below h.1, rows_below n h.2]
    rfl
theorem eTruR {l : List D} : dTru (S ++ [.lst l]) (.ref S.length) = some (!l.isEmpty) := by
  show (match cellL (S ++ [.lst l]) S.length with | some xs => some (!xs.isEmpty) | none => none) = _
  rw [cellEnd]
theorem eIE1 {α : Type} : ([] : List α).isEmpty = true := rfl
theorem eIE2 {α : Type} {x : α} {l : List α} : (x :: l).isEmpty = false := rfl
theorem oNeI {l : List Int} : dNe S (.lst (l.map D.int)) (.lst []) = some (.bl (!l.isEmpty)) := by
  have e1 : asPy S (.lst (l.map D.int)) = some (.list (l.map PyData.int)) := by
    show toPy _ = _
    unfold toPy
    rw [toPys_ints]
    rfl
  have e2 : asPy S (.lst []) = some (.list []) := by
    show toPy _ = _
    unfold toPy toPys
    rfl
  unfold dNe
  rw [e1, Option.bind_some, e2, Option.bind_some]
  have h1 : ∀ l : List Int, SeqAt.shaped (.list (l.map PyData.int)) = true := by
    intro l
    unfold SeqAt.shaped
    rw [Bool.and_eq_true]
    exact ⟨by unfold PyData.canLay0; exact lay_ints l, decide_eq_true (by unfold PyData.depth; rw [KE_depth l]; decide)⟩
  rw [if_pos (by rw [h1 l]; rfl)]
  cases l <;> rfl
theorem oNeL0 : dNe S (.lst []) (.lst []) = some (.bl false) := oNeI (l := [])
theorem oNeL1 {p : Int} : dNe S (.lst [.int p]) (.lst []) = some (.bl true) := oNeI (l := [p])
theorem oNeL2 {p q : Int} : dNe S (.lst [.int p, .int q]) (.lst []) = some (.bl true) := oNeI (l := [p, q])
theorem kbTF : (true == false) = false := rfl
theorem kbFT : (false == true) = false := rfl
/-- a store whose cells know only cells that are there -/
def Sok (S : Store) : Bool := S.all (cBelow S.length)
theorem gc_eq {F : FN} {R : Store} (h : F ds S = some (d, S ++ R)) (hS : Sok S = true) (hd : dBelow S.length d = true) : gcRun F ds S = some (d, S) := by
  unfold gcRun
  rw [h, Option.bind_some]
  dsimp only
  rw [List.take_left, if_pos]
  rw [hd, Bool.true_and]
  exact hS
mutual
theorem below_mono {n m : Nat} (h : n ≤ m) : ∀ {d : D}, dBelow n d = true → dBelow m d = true
  | .non, _ => rfl
  | .bl _, _ => rfl
  | .int _, _ => rfl
  | .str _, _ => rfl
  | .scr _, _ => rfl
  | .ref k, e => by unfold dBelow at e ⊢; exact decide_eq_true (Nat.lt_of_lt_of_le (of_decide_eq_true e) h)
  | .tup xs, e => by unfold dBelow at e ⊢; exact belows_mono h e
  | .lst xs, e => by unfold dBelow at e ⊢; exact belows_mono h e
theorem belows_mono {n m : Nat} (h : n ≤ m) : ∀ {ds : List D}, dBelows n ds = true → dBelows m ds = true
  | [], _ => by unfold dBelows; rfl
  | d :: ds, e => by
    unfold dBelows at e ⊢
    rw [Bool.and_eq_true] at e ⊢
    exact ⟨below_mono h e.1, belows_mono h e.2⟩
end
theorem cbelow_mono {n m : Nat} (h : n ≤ m) {c : Cell} (e : cBelow n c = true) : cBelow m c = true := by
  cases c with
  | dead => rfl
  | lst xs => unfold cBelow at e ⊢; exact belows_mono h e
  | ins C fs =>
    unfold cBelow at e ⊢
    rw [List.all_eq_true] at e ⊢
    exact fun p hp => below_mono h (e p hp)
theorem Sok_push {c : Cell} (h : Sok S = true) (hc : cBelow (S.length + 1) c = true) : Sok (S ++ [c]) = true := by
  unfold Sok at h ⊢
  rw [List.length_append, List.length_singleton]
  rw [List.all_eq_true] at h ⊢
  intro x hx
  rcases List.mem_append.mp hx with z | z
  · exact cbelow_mono (Nat.le_succ _) (h x z)
  · rw [List.mem_singleton.mp z]; exact hc
theorem SokR {l : List D} (h : Sok S = true) (hl : l.all rw3 = true) : Sok (S ++ [.lst l]) = true := Sok_push h (rows_below _ hl)
theorem insLt {p q : Int} {l : List Int} (h : p < q) : insU p (q :: l) = p :: q :: l := if_pos h
theorem insEq {p q : Int} {l : List Int} (h : p = q) : insU p (q :: l) = q :: l := by unfold insU; rw [if_neg (by omega), if_pos h]
theorem insGt {p q : Int} {l : List Int} (h : q < p) : insU p (q :: l) = q :: insU p l := by conv => lhs; unfold insU; rw [if_neg (by omega), if_neg (by omega)]
theorem insNil {p : Int} : insU p [] = [p] := rfl
theorem ssetN : sset [] = [] := rfl
theorem ssetC {p : Int} {l : List Int} : sset (p :: l) = insU p (sset l) := rfl
theorem eSS : fSSet a sl S = (a sl S).bind fun p => (asQ p.2 p.1).bind fun xs => (asInts xs).bind fun ns => if ns.length < 64 then some (.lst ((sset ns).map D.int), p.2) else none := rfl
theorem asQT : asQ S (.tup xs) = some xs := rfl
theorem asQL : asQ S (.lst xs) = some xs := rfl
theorem asIN : asInts [] = some [] := rfl
theorem asIC {p : Int} : asInts (.int p :: xs) = (asInts xs).bind fun l => some (p :: l) := rfl
end
end DL

/-! The mirror functions run rule by rule. -/
namespace DL
open PySem PySem.Spec PyProof.Rows L2
def seqK (g : FS) : Fl → FS
  | .nx, sl, S => g sl S
  | fl, sl, S => some (fl, sl, S)
def forK (G : GF) (f : FS) (ds : List D) : Fl → FS
  | .nx, sl, S => forL G f ds sl S
  | .ct, sl, S => forL G f ds sl S
  | .bk, sl, S => some (.nx, sl, S)
  | .ret d, sl, S => some (.ret d, sl, S)
section
variable {a b c o i : FE} {f g h : FS} {t u : FT} {r : FA} {sl sl' sl1 sl2 : Slots} {S S1 S2 S3 S4 S5 : Store} {d d' x y z : D} {xs ys ds l : List D} {op op' : Op2} {n m k : Nat} {p q : Bool} {fl : Fl}
theorem jVar (h : sl[n]? = some (some d)) : fVar n sl S = some (d, S) := by unfold fVar; rw [h]
theorem jNil : fNil sl S = some ([], S) := rfl
theorem jCons (h1 : a sl S = some (d, S1)) (h2 : r sl S1 = some (ds, S2)) : fCons a r sl S = some (d :: ds, S2) := by rw [eCons, h1, Option.bind_some, h2]; rfl
theorem jOp (h1 : a sl S = some (x, S1)) (h2 : b sl S1 = some (y, S2)) (h3 : op S2 x y = some d) : fOp op a b sl S = some (d, S2) := by rw [eOp, h1, Option.bind_some, h2, Option.bind_some, h3]; rfl
theorem jUn {op : Op1} (h1 : a sl S = some (x, S1)) (h3 : op S1 x = some d) : fUn op a sl S = some (d, S1) := by rw [eUn, h1, Option.bind_some, h3]; rfl
theorem jCB {op : OpN} (h1 : r sl S = some (xs, S1)) (h3 : op S1 xs = some d) : fCB op r sl S = some (d, S1) := by rw [eCB, h1, Option.bind_some, h3]; rfl
theorem jTst (h1 : a sl S = some (.bl p, S1)) : fTst a sl S = some (p, S1) := by rw [eTst, h1]; rfl
theorem jTru (h1 : a sl S = some (x, S1)) (h2 : dTru S1 x = some p) : fTru a sl S = some (p, S1) := by rw [eTru, h1, Option.bind_some, h2]; rfl
theorem jNot (h1 : t sl S = some (p, S1)) : fNot t sl S = some (!p, S1) := by rw [eNot, h1]; rfl
theorem jIteT {α : Type} {P : Prop} [Decidable P] {v w r : α} (hp : P) (h : v = r) : (if P then v else w) = r := by rw [if_pos hp]; exact h
theorem jIteF {α : Type} {P : Prop} [Decidable P] {v w r : α} (hp : ¬ P) (h : w = r) : (if P then v else w) = r := by rw [if_neg hp]; exact h
theorem jAnd {R : Option (Bool × Store)} (h1 : t sl S = some (p, S1)) (h2 : (if p = true then u sl S1 else some (false, S1)) = R) : fAnd t u sl S = R := by rw [eAnd, h1]; exact h2
theorem jOr {R : Option (Bool × Store)} (h1 : t sl S = some (p, S1)) (h2 : (if p = true then some (true, S1) else u sl S1) = R) : fOr t u sl S = R := by rw [eOr, h1]; exact h2
theorem jIfE {R : Option (D × Store)} (h1 : t sl S = some (p, S1)) (h2 : (if p = true then a sl S1 else b sl S1) = R) : fIfE t a b sl S = R := by rw [eIfE, h1]; exact h2
theorem jAndV {R : Option (D × Store)} (h1 : a sl S = some (x, S1)) (h2 : dTru S1 x = some p) (h3 : (if p = true then b sl S1 else some (x, S1)) = R) : fAndV a b sl S = R := by rw [eAndV, h1, Option.bind_some, h2]; exact h3
theorem jOrV {R : Option (D × Store)} (h1 : a sl S = some (x, S1)) (h2 : dTru S1 x = some p) (h3 : (if p = true then some (x, S1) else b sl S1) = R) : fOrV a b sl S = R := by rw [eOrV, h1, Option.bind_some, h2]; exact h3
theorem jNotV (h1 : a sl S = some (x, S1)) (h2 : dTru S1 x = some p) : fNotV a sl S = some (.bl (!p), S1) := by rw [eNotV, h1, Option.bind_some, h2]; rfl
def chK (op' : Op2) (y : D) (c : FE) (sl : Slots) (S : Store) : Option (D × Store) := (c sl S).bind fun z => (op' z.2 y z.1).bind fun d => some (d, z.2)
theorem jCh {R : Option (D × Store)} (h1 : a sl S = some (x, S1)) (h2 : b sl S1 = some (y, S2)) (h3 : op S2 x y = some (.bl p)) (h4 : (if p = true then chK op' y c sl S2 else some (.bl false, S2)) = R) : fCh op op' a b c sl S = R := by
  rw [eCh, h1, Option.bind_some, h2, Option.bind_some, h3, Option.bind_some, ← h4]
  cases p <;> rfl
theorem jChK (h4 : c sl S2 = some (z, S3)) (h5 : op' S3 y z = some d) : chK op' y c sl S2 = some (d, S3) := by unfold chK; rw [h4, Option.bind_some, h5]; rfl
theorem sz_ok {n : Nat} (h : Nat.ble n 16777216 = true) : n ≤ sizeLine := by rw [sizeLine_eq]; exact Nat.le_of_ble_eq_true h
theorem jTup (h1 : r sl S = some (ds, S1)) (hl : Nat.ble ds.length 16777216 = true) : fTup r sl S = some (.tup ds, S1) := by rw [eTup, h1]; exact if_pos (sz_ok hl)
theorem jLst (h1 : r sl S = some (ds, S1)) (hl : Nat.ble ds.length 16777216 = true) : fLst r sl S = some (.lst ds, S1) := by rw [eLst, h1]; exact if_pos (sz_ok hl)
theorem jLstM (h1 : r sl S = some (ds, S1)) (hl : Nat.ble ds.length 16777216 = true) : fLstM r sl S = some (.ref S1.length, S1 ++ [.lst ds]) := by rw [eLstM, h1]; exact if_pos (sz_ok hl)
theorem jCall {F : FN} {R : D × Store} (h1 : r sl S = some (ds, S1)) (h2 : F ds S1 = some R) : fCall F r sl S = some R := by rw [eCall, h1]; exact h2
theorem jRet (h1 : a sl S = some (d, S1)) : sRet a sl S = some (.ret d, sl, S1) := by rw [eRet, h1]; rfl
theorem jSeq {R : Option (Fl × Slots × Store)} (h1 : f sl S = some (fl, sl1, S1)) (h2 : seqK g fl sl1 S1 = R) : sSeq f g sl S = R := by
  rw [eSeq, h1, Option.bind_some, ← h2]
  cases fl <;> rfl
theorem jKnx {R : Option (Fl × Slots × Store)} (h : g sl S = R) : seqK g .nx sl S = R := h
theorem jKret : seqK g (.ret d) sl S = some (.ret d, sl, S) := rfl
theorem jSNil : sNil sl S = some (.nx, sl, S) := rfl
theorem jIf {R : Option (Fl × Slots × Store)} (h1 : t sl S = some (p, S1)) (h2 : (if p = true then f sl S1 else g sl S1) = R) : sIf t f g sl S = R := by rw [eIf, h1]; exact h2
theorem jSet0 {α : Type} {x y : α} {l : List α} : (x :: l).set 0 y = y :: l := rfl
theorem jSetS {α : Type} {x y : α} {l l' : List α} (h : l.set n y = l') : (x :: l).set (n + 1) y = x :: l' := by rw [List.set_cons_succ, h]
theorem jSet (h1 : a sl S = some (d, S1)) (h2 : sl.set n (some d) = sl') : sSet n a sl S = some (.nx, sl', S1) := by rw [eSet, h1, ← h2]; rfl
theorem jAsg {G : GF} (h1 : a sl S = some (d, S1)) (h2 : G d sl = some sl') : sAsg a G sl S = some (.nx, sl', S1) := by rw [eAsg, h1, Option.bind_some, h2]; rfl
theorem jPar (h1 : a sl S = some (x, S1)) (h2 : b sl S1 = some (y, S2)) (h3 : sl.set n (some x) = sl1) (h4 : sl1.set m (some y) = sl2) : sPar n m a b sl S = some (.nx, sl2, S2) := by rw [ePar, h1, Option.bind_some, h2, ← h4, ← h3]; rfl
theorem jPar3 {sl3 : Slots} (h1 : a sl S = some (x, S1)) (h2 : b sl S1 = some (y, S2)) (h3 : c sl S2 = some (z, S3)) (h4 : sl.set n (some x) = sl1) (h5 : sl1.set m (some y) = sl2) (h6 : sl2.set k (some z) = sl3) : sPar3 n m k a b c sl S = some (.nx, sl3, S3) := by
  rw [ePar3, h1, Option.bind_some, h2, Option.bind_some, h3, ← h6, ← h5, ← h4]; rfl
theorem jExpr (h1 : a sl S = some (d, S1)) : sExpr a sl S = some (.nx, sl, S1) := by rw [eExpr, h1]; rfl
theorem jFor {fi : FI} {G : GF} {R : Option (Fl × Slots × Store)} (h1 : fi sl S = some (ds, S1)) (h2 : forL G f ds sl S1 = R) : sFor fi G f sl S = R := by rw [eFor, h1]; exact h2
theorem jForN {G : GF} : forL G f [] sl S = some (.nx, sl, S) := rfl
theorem jForC {G : GF} {R : Option (Fl × Slots × Store)} (h1 : G d sl = some sl1) (h2 : f sl1 S = some (fl, sl2, S2)) (h3 : forK G f ds fl sl2 S2 = R) : forL G f (d :: ds) sl S = R := by
  rw [eForC, h1, Option.bind_some, h2, Option.bind_some, ← h3]
  cases fl <;> rfl
theorem jFnx {G : GF} {R : Option (Fl × Slots × Store)} (h : forL G f ds sl S = R) : forK G f ds .nx sl S = R := h
theorem jFret {G : GF} : forK G f ds (.ret d) sl S = some (.ret d, sl, S) := rfl
theorem jGNm (h : sl.set n (some d) = sl') : gNm n d sl = some sl' := by rw [eGNm, h]
theorem jGNl : gNl [] sl = some sl := rfl
theorem jGCs {G : GF} {R : GFs} (h1 : G d sl = some sl1) (h2 : R ds sl1 = some sl2) : gCs G R (d :: ds) sl = some sl2 := by rw [eGCs, h1]; exact h2
theorem jGTp {R : GFs} (h1 : ds.length = n) (h2 : R ds sl = some sl1) : gTp n R (.tup ds) sl = some sl1 := by rw [eGTp, if_pos h1]; exact h2
theorem jSq (h1 : a sl S = some (d, S1)) (h2 : asS d = some ds) : iSeq a sl S = some (ds, S1) := by rw [eSq, h1, Option.bind_some, h2]; rfl
theorem jZp (h1 : a sl S = some (.tup xs, S1)) (h2 : b sl S1 = some (.tup ys, S2)) (h3 : zipD xs ys = l) : iZp a b sl S = some (l, S2) := by rw [eZp, h1, Option.bind_some, h2, ← h3]; rfl
theorem jZN : zipD [] ys = [] := rfl
theorem jZN2 : zipD xs [] = [] := zipN2
theorem jZC (h : zipD xs ys = l) : zipD (x :: xs) (y :: ys) = .tup [x, y] :: l := by rw [zipC, h]
theorem jR1 {j : Int} (h1 : a sl S = some (.int j, S1)) (hb : -4611686018427387904 ≤ j ∧ j < 4611686018427387904) (hn : j.toNat = n) (h2 : rng 0 n = l) : iRng1 a sl S = some (l, S1) := by rw [eR1, h1, ← h2, ← hn]; exact oR1 hb
theorem jR2 {j j' : Int} (h1 : a sl S = some (.int j, S1)) (h2 : b sl S1 = some (.int j', S2)) (hb : -4611686018427387904 ≤ j ∧ j < 4611686018427387904 ∧ -4611686018427387904 ≤ j' ∧ j' < 4611686018427387904) (h3 : rng j (j' - j).toNat = l) : iRng2 a b sl S = some (l, S2) := by
  rw [eR2, h1, Option.bind_some, h2, ← h3]; exact oR2 hb
theorem jRN {lo : Int} : rng lo 0 = [] := rfl
theorem jRS {lo : Int} (h : rng (lo + 1) n = l) : rng lo (n + 1) = .int lo :: l := by rw [rngS, h]
theorem jLc {fi : FI} {G : GF} {vs : List Nat} (h1 : fi sl S = some (ds, S1)) (hw : wipeD sl vs = sl1) (h2 : lcL G t a ds sl1 S1 = some (l, S2)) (hl : Nat.ble l.length 16777216 = true) : fLc fi G t a vs sl S = some (.lst l, S2) := by rw [eLc, h1, Option.bind_some, hw, h2]; exact if_pos (sz_ok hl)
theorem jWN : wipeD sl [] = sl := rfl
theorem jWC {v : Nat} {vs : List Nat} (h : wipeD sl vs = sl1) (h2 : sl1.set v none = sl2) : wipeD sl (v :: vs) = sl2 := by rw [eWC, h, h2]
theorem jLcN {G : GF} : lcL G t a [] sl S = some ([], S) := rfl
def lcK (G : GF) (t : FT) (a : FE) (ds : List D) (sl sl1 : Slots) (S : Store) : Option (List D × Store) := (a sl1 S).bind fun q => (lcL G t a ds sl q.2).bind fun r => some (q.1 :: r.1, r.2)
theorem jLcC {G : GF} {R : Option (List D × Store)} (h1 : G d sl = some sl1) (h2 : t sl1 S = some (p, S1)) (h3 : (if p = true then lcK G t a ds sl sl1 S1 else lcL G t a ds sl S1) = R) : lcL G t a (d :: ds) sl S = R := by
  rw [eLcC, h1, Option.bind_some, h2]; exact h3
theorem jLcK {G : GF} (h3 : a sl1 S1 = some (x, S2)) (h4 : lcL G t a ds sl S2 = some (l, S3)) : lcK G t a ds sl sl1 S1 = some (x :: l, S3) := by unfold lcK; rw [h3, Option.bind_some, h4]; rfl
theorem jYes : fYes sl S = some (true, S) := rfl
theorem jGx {w : Bool} {fi : FI} {G : GF} {vs : List Nat} (h1 : fi sl S = some (ds, S1)) (hw : wipeD sl vs = sl1) (h2 : gxL w G t a ds sl1 S1 = some (p, S2)) : fGx w fi G t a vs sl S = some (.bl p, S2) := by rw [eGx, h1, Option.bind_some, hw, h2]; rfl
theorem jGxN {G : GF} : gxL false G t a [] sl S = some (true, S) := rfl
theorem jGxM {G : GF} : gxL true G t a [] sl S = some (false, S) := rfl
def gxK (w : Bool) (G : GF) (t : FT) (a : FE) (ds : List D) (sl sl1 : Slots) (S : Store) : Option (Bool × Store) := (a sl1 S).bind fun q => (match q.1 with
      | .bl b => if b = w then some (w, q.2) else gxL w G t a ds sl q.2
      | _ => none)
theorem jGxC {w : Bool} {G : GF} {R : Option (Bool × Store)} (h1 : G d sl = some sl1) (h2 : t sl1 S = some (p, S1)) (h3 : (if p = true then gxK w G t a ds sl sl1 S1 else gxL w G t a ds sl S1) = R) : gxL w G t a (d :: ds) sl S = R := by
  rw [eGxC, h1, Option.bind_some, h2]; exact h3
theorem jGxK {w : Bool} {G : GF} {R : Option (Bool × Store)} (h3 : a sl1 S1 = some (.bl q, S2)) (h4 : (if q = w then some (w, S2) else gxL w G t a ds sl S2) = R) : gxK w G t a ds sl sl1 S1 = R := by unfold gxK; rw [h3]; exact h4
theorem jRun' {F : FS} {S' : Store} (h0 : ds.length = n) (h1 : dstart m ds = sl) (h2 : F sl S = some (.ret d, sl', S')) : fnRun n m F ds S = some (d, S') := by rw [eRun, if_pos h0, h1, h2]; rfl
theorem jSt0 : dstart 0 [] = [] := rfl
theorem jStN (h : dstart m [] = sl) : dstart (m + 1) [] = none :: sl := by rw [← h]; rfl
theorem jStC (h : dstart m ds = sl) : dstart (m + 1) (d :: ds) = some d :: sl := by
  rw [← h]
  unfold dstart
  rw [List.map_cons, List.length_cons, Nat.add_sub_add_right]
  rfl
theorem jIsi {c' : String} {ty : String} (h1 : a sl S = some (x, S1)) (h2 : tyD S1 x = some ty) (h3 : kitB ty c' = some p) : fIsi c' a sl S = some (.bl p, S1) := by rw [eIsi, h1, Option.bind_some, h2, Option.bind_some, h3]; rfl
theorem jAppend (h1 : o sl S = some (.ref n, S1)) (h2 : r sl S1 = some ([x], S2)) (h3 : cellL S1 n = some xs) (h4 : cellL S2 n = some l) (h5 : Nat.ble l.length 1000000 = true) (h6 : S2.set n (.lst (l ++ [x])) = S3) : fMt mAppend o r sl S = some (.non, S3) := by
  rw [eMt, h1, Option.bind_some]
  show (cellL S1 n).bind _ = _
  rw [h3, Option.bind_some, h2, Option.bind_some, eAppend, h4, Option.bind_some, if_pos, h6]
  have := Nat.le_of_ble_eq_true h5
  rw [sizeLine_eq]; omega
theorem jSetLast (h1 : a sl S = some (d, S1)) (h2 : o sl S1 = some (.ref n, S2)) (h3 : i sl S2 = some (.int (-1), S3)) (h4 : cellL S3 n = some (l ++ [y])) (h5 : S3.set n (.lst (l ++ [d])) = S4) : sSetIx a o i sl S = some (.nx, sl, S4) := by
  rw [eSetIx, h1, Option.bind_some, h2, Option.bind_some, h3, Option.bind_some]
  show (cellL S3 n).bind _ = _
  rw [h4, Option.bind_some, List.length_append, List.length_singleton, ixm, Option.bind_some, List.set_append_right _ _ (Nat.le_refl _), Nat.sub_self, ← h5]
  rfl
def retK (d : D) (sl : Slots) (S : Store) : Option (Fl × Slots × Store) := match d with
  | .ref n => (cellL S n).bind fun xs => some (.ret (.lst xs), sl, S.set n .dead)
  | d => some (.ret d, sl, S)
theorem jRetF {R : Option (Fl × Slots × Store)} (h1 : a sl S = some (d, S1)) (h2 : retK d sl S1 = R) : sRetF a sl S = R := by rw [eRetF, h1]; exact h2
theorem jRetKR (h2 : cellL S1 n = some l) (h3 : S1.set n .dead = S2) : retK (.ref n) sl S1 = some (.ret (.lst l), sl, S2) := by
  show (cellL S1 n).bind _ = _
  rw [h2, ← h3]
  rfl
theorem jRetKL : retK (.lst l) sl S1 = some (.ret (.lst l), sl, S1) := rfl
theorem jLenT (h : xs.length = k) : one dLen S [.tup xs] = some (.int (k : Nat)) := by rw [← h]; rfl
theorem jLenL (h : xs.length = k) : one dLen S [.lst xs] = some (.int (k : Nat)) := by rw [← h]; rfl
theorem jLenR (h1 : cellL S n = some xs) (h : xs.length = k) : one dLen S [.ref n] = some (.int (k : Nat)) := by
  rw [← h]
  show (cellL S n).bind _ = _
  rw [h1]; rfl
theorem jIxT {j : Int} (h : atI xs j = some d) : dIx S (.tup xs) (.int j) = some d := h
theorem jIxL {j : Int} (h : atI xs j = some d) : dIx S (.lst xs) (.int j) = some d := h
theorem jNeRT (h : (l ++ [y]).all rw3 = true) : dNe (S ++ [.lst (l ++ [y])]) (.ref S.length) (.lst []) = some (.bl true) := by
  rw [oNeR h]
  cases l <;> rfl
theorem jTruR0 : dTru (S ++ [.lst []]) (.ref S.length) = some false := eTruR
theorem jTruR1 : dTru (S ++ [.lst (l ++ [y])]) (.ref S.length) = some true := by rw [eTruR]; cases l <;> rfl
theorem jIxR {j : Int} (h1 : cellL S n = some l) (h2 : atI l j = some d) : dIx S (.ref n) (.int j) = some d := by rw [oIxR, h1]; exact h2
theorem jApN {α : Type} {ys : List α} : [] ++ ys = ys := rfl
theorem jApC {α : Type} {x : α} {xs ys l : List α} (h : xs ++ ys = l) : (x :: xs) ++ ys = x :: l := by rw [← h]; rfl
theorem jMpN {α β : Type} {f : α → β} : List.map f [] = [] := rfl
theorem jMpC {α β : Type} {f : α → β} {x : α} {xs : List α} {l : List β} (h : List.map f xs = l) : List.map f (x :: xs) = f x :: l := by rw [← h]; rfl
theorem jAddR (h1 : cellL S n = some l) (h2 : Nat.ble (l.length + ys.length) 16777216 = true) : dAdd S (.ref n) (.lst ys) = some (.lst (l ++ ys)) := by
  show (cellL S n).bind (fun xs => (some ys).bind fun zs => _) = _
  rw [h1, Option.bind_some, Option.bind_some]
  exact if_pos (sz_ok h2)
theorem jAddL (h2 : Nat.ble (xs.length + ys.length) 16777216 = true) (h3 : xs ++ ys = l) : dAdd S (.lst xs) (.lst ys) = some (.lst l) := by rw [dAdd_lst, ← h3]; exact if_pos (sz_ok h2)
theorem jAddT (h2 : Nat.ble (xs.length + ys.length) 16777216 = true) (h3 : xs ++ ys = l) : dAdd S (.tup xs) (.tup ys) = some (.tup l) := by rw [dAdd_tup, ← h3]; exact if_pos (sz_ok h2)
theorem jSS {ns ms : List Int} (h1 : a sl S = some (x, S1)) (h2 : asQ S1 x = some xs) (h3 : asInts xs = some ns) (h4 : Nat.ble ns.length 63 = true) (h5 : sset ns = ms) (h6 : List.map D.int ms = l) : fSSet a sl S = some (.lst l, S1) := by
  rw [← h6, eSS, h1, Option.bind_some, h2, Option.bind_some, h3, Option.bind_some, if_pos, h5]
  have := Nat.le_of_ble_eq_true h4
  omega
theorem jSlT {lo : FO} {hi : FO} (h1 : a sl S = some (.tup (x :: xs), S1)) (h2 : lo sl S1 = some (some 1, S2)) (h3 : hi sl S2 = some (none, S3)) : fSl a lo hi sl S = some (.tup xs, S3) := by
  rw [eSl, h1, Option.bind_some, h2, Option.bind_some, h3, Option.bind_some, oSl1]; rfl
theorem jNo : fNo sl S = some (none, S) := rfl
theorem jPart {j : Int} (h1 : a sl S = some (.int j, S1)) : fPart a sl S = some (some j, S1) := by rw [ePart, h1]; rfl
theorem jSetC {ns ms ks : List Int} {p : Int} (h1 : sset ns = ms) (h2 : insU p ms = ks) : sset (p :: ns) = ks := by rw [ssetC, h1, h2]
theorem jInsGt {p q : Int} {ns ms : List Int} (h : q < p) (h2 : insU p ns = ms) : insU p (q :: ns) = q :: ms := by rw [insGt h, h2]
theorem jAsN : asInts [] = some [] := rfl
theorem jAsC {p : Int} {ns : List Int} (h : asInts xs = some ns) : asInts (.int p :: xs) = some (p :: ns) := by rw [asIC, h]; rfl
end
end DL

namespace DL
open PySem PySem.Spec PyProof.Rows L2
/-- a list of the store that nobody changes any more is walked: it stands still from now on -/
def iSeqF (a : FE) : FI := fun sl S => (a sl S).bind fun p => match p.1 with
  | .ref n => (cellL p.2 n).bind fun xs => some (xs, p.2.set n .dead)
  | _ => none
theorem di_seqF {X : Cx} {T : List Addr} {tg e : Expr} {fe : FE} (he : DE X T e fe) : DI X T tg e (iSeqF fe) := by
  refine PI.imp (pi_list he) fun σ H R ⟨W, S, sl, ds, S', s, q, e, w⟩ => ?_
  obtain ⟨⟨d, S1⟩, e1, e⟩ := bsome e
  cases d with
  | ref n =>
    obtain ⟨xs, e2, e⟩ := bsome e
    cases e
    refine tD.mk s q e1 fun W1 H1 v1 l1 s1 r1 => ?_
    obtain ⟨a, m, rfl⟩ := r1.ref
    have z := cellL_some e2
    obtain ⟨vs, ha, qv⟩ := s1.cell n _ a z m
    obtain ⟨s2, l2⟩ := s1.freeze z m ha
    exact ⟨a, rfl, ⟨vs, .inl (.inl ha)⟩, w _ H1 _ (l1.trans l2) s2 (itl_ok (fun W' S H l s => .inl (.inl (s.imm _ _ (l.phi _ _ Wd.add_at)))) (qv.mono l2) fun _ _ _ _ _ _ _ _ => trivial)⟩
  | _ => cases e
section
variable {a b c : FE} {sl sl1 : Slots} {S S1 S2 S3 S4 : Store} {l m xs ds : List D} {d x y : D} {n : Nat} {p : Bool} {t t1 : FT} {G G1 : GF} {f1 fi : FI} {vs vs1 : List Nat}
theorem jSqF (h1 : a sl S = some (.ref n, S1)) (h2 : cellL S1 n = some xs) (h3 : S1.set n .dead = S2) : iSeqF a sl S = some (xs, S2) := by
  unfold iSeqF
  rw [h1, Option.bind_some]
  show (cellL S1 n).bind _ = _
  rw [h2, ← h3]
  rfl
theorem jLc2 (h1 : fi sl S = some (ds, S1)) (hw : wipeD sl vs = sl1) (h2 : lc2L G t f1 G1 t1 a vs1 ds sl1 S1 = some (l, S2)) (hl : Nat.ble l.length 16777216 = true) : fLc2 fi G t f1 G1 t1 a vs vs1 sl S = some (.lst l, S2) := by
  unfold fLc2
  rw [h1, Option.bind_some]
  dsimp only
  rw [hw, h2]
  exact if_pos (sz_ok hl)
theorem jLc2N : lc2L G t f1 G1 t1 a vs1 [] sl S = some ([], S) := rfl
theorem jLc2C {sl2 : Slots} {r : List D} (h1 : G d sl = some sl1) (h2 : t sl1 S = some (true, S1)) (h3 : f1 sl1 S1 = some (xs, S2)) (hw : wipeD sl1 vs1 = sl2) (h4 : lcL G1 t1 a xs sl2 S2 = some (l, S3)) (h5 : lc2L G t f1 G1 t1 a vs1 ds sl S3 = some (m, S4)) (h6 : l ++ m = r) : lc2L G t f1 G1 t1 a vs1 (d :: ds) sl S = some (r, S4) := by
  rw [← h6]
  show (G d sl).bind _ = _
  rw [h1, Option.bind_some, h2, Option.bind_some, if_pos rfl, h3, Option.bind_some, hw, h4, Option.bind_some, h5]
  rfl
theorem jLRg {j : Int} (h1 : a sl S = some (.int j, S1)) (hb : -4611686018427387904 ≤ j ∧ j ≤ 16777216) : fLRg1 a sl S = some (.lst (rng 0 j.toNat), S1) := by
  unfold fLRg1
  rw [h1, Option.bind_some]
  exact if_pos (by omega)
theorem jMake {C : Addr} {F : FN} {r : FA} {xs : List D} (h1 : r sl S = some (xs, S1)) (h2 : F (.ref S1.length :: xs) (S1 ++ [.ins C []]) = some (.non, S2)) : fMake C F r sl S = some (.ref S1.length, S2) := by
  unfold fMake
  rw [h1, Option.bind_some, h2]
  rfl
theorem eqTE {x : D} {l : List D} {p : PyData} {ps : List PyData} (h1 : toPy x = some p) (h2 : toPys l = some ps) (h : (SeqAt.shaped (.tuple (p :: ps))) = true) : dEq S (.tup (x :: l)) (.tup []) = some (.bl false) := by
  have e1 : asPy S (.tup (x :: l)) = some (.tuple (p :: ps)) := by
    show toPy _ = _
    unfold toPy
    unfold toPys
    rw [h1, h2]
    rfl
  have e2 : asPy S (.tup []) = some (.tuple []) := rfl
  unfold dEq
  rw [e1, Option.bind_some, e2, Option.bind_some, if_pos (by rw [h]; rfl)]
  rfl
theorem eqT2 {f g : Int} : dEq S (.tup [.int f, .int g]) (.tup []) = some (.bl false) := eqTE rfl rfl (by simp [SeqAt.shaped, PyData.canLay0, PyData.canLayAll0, PyData.depth, PyData.depthAll])
theorem eqT4 {f g h i : Int} : dEq S (.tup [.int f, .int g, .int h, .int i]) (.tup []) = some (.bl false) := eqTE rfl rfl (by simp [SeqAt.shaped, PyData.canLay0, PyData.canLayAll0, PyData.depth, PyData.depthAll])
theorem neRng {n : Nat} (h : 0 < n) : dNe S (.lst (rng 0 n)) (.lst []) = some (.bl true) := by
  have e : rng 0 n = ((List.range n).map fun i => (0 : Int) + ((i : Nat) : Int)).map D.int := by
    unfold rng
    rw [List.map_map]
    rfl
  rw [e, oNeI]
  cases n with
  | zero => cases h
  | succ n => rw [List.range_succ_eq_map]; rfl
theorem neT2 {f g : Int} : dNe S (.tup [.int f, .int g]) (.tup [.int f, .int g]) = some (.bl false) := by
  have e : asPy S (.tup [.int f, .int g]) = some (.tuple [.int f, .int g]) := rfl
  unfold dNe
  rw [e, Option.bind_some, Option.bind_some, if_pos (by simp [SeqAt.shaped, PyData.canLay0, PyData.canLayAll0, PyData.depth, PyData.depthAll])]
  simp [PyData.eqv, PyData.eqvAll]
end
end DL

namespace K51
open PySem PySem.Spec PyProof.Rows L2 DL
/-! ### the text -/
def topS (i : Nat) : Stmt := PySem.Challenge.pw_keystotext_k51_whole_fooled.main.body.getD i (.Pass ⟨0, 0, 0, 0⟩)
def inCls (s : Stmt) (j : Nat) : Stmt := match s with
  | .ClassDef _ _ _ body _ _ _ _ _ _ _ => body.getD j (.Pass ⟨0, 0, 0, 0⟩)
  | _ => s
abbrev s__law_box : Stmt := topS 23
abbrev s__law_same : Stmt := topS 26
abbrev s__law_load : Stmt := topS 24
abbrev s__law_draw : Stmt := topS 25
abbrev s_does_turn_once : Stmt := topS 20
abbrev s_fooling_signal : Stmt := topS 21
abbrev s__law_is_number : Stmt := topS 27
abbrev s__law_are_rising : Stmt := topS 28
abbrev s__law_are_numbers : Stmt := topS 29
abbrev s__law_is_up : Stmt := topS 30
abbrev s__law_marks : Stmt := topS 31
abbrev s__law_spans : Stmt := topS 32
abbrev s__law_fits_far : Stmt := topS 33
abbrev s_is_closed_at : Stmt := topS 8
abbrev s_wrong_spans : Stmt := topS 10
abbrev s_bounce_spans : Stmt := topS 9
abbrev s_without_span : Stmt := topS 11
abbrev s_bursts_of : Stmt := topS 12
abbrev s_is_quiet_about : Stmt := topS 13
abbrev s_fits_signal : Stmt := topS 14
abbrev s_is_number : Stmt := topS 1
abbrev s_is_row : Stmt := topS 2
abbrev s_are_rising : Stmt := topS 3
abbrev s_is_signal : Stmt := topS 7
abbrev s_Settler_init : Stmt := inCls (topS 17) 0
abbrev s_Settler_hear : Stmt := inCls (topS 17) 2
abbrev s_settled_ticks : Stmt := topS 18
abbrev s__law_turnings : Stmt := topS 34
abbrev s__law_is_fooled : Stmt := topS 35
abbrev s_law : Stmt := topS 36
/-! ### what they compute -/
def B__law_box : FS := (sRet (fLstM (fCons (fListM (fCons (fSl (fVar 0) fNo (fPart (fC (.int 63)))) fNil)) (fCons (fC (.int 0)) (fCons (fOp dAdd (fC (.int 4711)) (fCB (one dLen) (fCons (fVar 0) fNil))) fNil)))))
def F__law_box : FN := fnRun 1 1 B__law_box
def B__law_same : FS := (sSeq (sIf (fOr (fAnd (fTru (fIsi "tuple" (fVar 0))) (fTru (fIsi "tuple" (fVar 1)))) (fAnd (fTru (fIsi "list" (fVar 0))) (fTru (fIsi "list" (fVar 1))))) sBad sNil)
  (sSeq (sIf (fOr (fTru (fIsi "bool" (fVar 0))) (fTru (fIsi "bool" (fVar 1)))) (sRet (fAndV (fIsi "bool" (fVar 0)) (fAndV (fIsi "bool" (fVar 1)) (fOp dEq (fVar 0) (fVar 1))))) sNil)
  (sSeq (sIf (fOr (fAnd (fTru (fIsi "int" (fVar 0))) (fTru (fIsi "int" (fVar 1)))) (fAnd (fTru (fIsi "str" (fVar 0))) (fTru (fIsi "str" (fVar 1))))) (sRet (fOp dEq (fVar 0) (fVar 1))) sNil)
  (sRet (fAndV (fOp dIs (fVar 0) (fC .non)) (fOp dIs (fVar 1) (fC .non)))))))
def F__law_same : FN := fnRun 2 3 B__law_same
def B__law_load : FS := (sSeq (sSet 1 (fOp dIx (fVar 0) (fC (.int 0))))
  (sSeq (sIf (fTst (fOp dGt (fCB (one dLen) (fCons (fVar 1) fNil)) (fC (.int 0)))) (sSeq (sSet 2 (fCB (one dInt) (fCons (fMt mPopAt (fVar 1) (fCons (fC (.int 0)) fNil)) fNil)))
  (sSeq (sSet 3 (fIfE (fTst (fOp dGe (fVar 2) (fC (.int 0)))) (fOp dMul (fC (.int 2)) (fVar 2)) (fOp dSub (fOp dMul (fUn dNeg (fC (.int 2))) (fVar 2)) (fC (.int 1)))))
  (sSeq (sIf (fTst (fOp dGe (fVar 3) (fC (.int 1000000000000000000)))) (sRet (fVar 3)) sNil)
  (sSetIx (fOp dMod (fCB (one dInt) (fCons (fOp dAdd (fOp dAdd (fOp dMul (fOp dIx (fVar 0) (fC (.int 2))) (fC (.int 69621))) (fOp dMul (fVar 3) (fC (.int 48271)))) (fC (.int 11))) fNil)) (fC (.int 2147483647))) (fVar 0) (fC (.int 2)))))) sNil)
  (sSeq (sSet 4 (fOp dMod (fCB (one dInt) (fCons (fOp dAdd (fOp dMul (fOp dIx (fVar 0) (fC (.int 2))) (fC (.int 48271))) (fC (.int 17))) fNil)) (fC (.int 2147483629))))
  (sSeq (sSet 5 (fOp dMod (fCB (one dInt) (fCons (fOp dAdd (fOp dMul (fVar 4) (fC (.int 69621))) (fC (.int 5))) fNil)) (fC (.int 2147483587))))
  (sSeq (sSetIx (fOp dMod (fCB (one dInt) (fCons (fOp dAdd (fOp dMul (fVar 5) (fC (.int 40692))) (fC (.int 3))) fNil)) (fC (.int 2147483563))) (fVar 0) (fC (.int 2)))
  (sRet (fOp dAdd (fOp dAdd (fOp dMul (fVar 4) (fC (.int 4611686014132420609))) (fOp dMul (fVar 5) (fC (.int 2147483647)))) (fOp dIx (fVar 0) (fC (.int 2))))))))))
def F__law_load : FN := fnRun 1 6 B__law_load
def B__law_draw : FS := (sSeq (sIf (fTst (fOp dLt (fOp dIx (fVar 0) (fC (.int 1))) (fVar 1))) (sSetIx (fCall F__law_load (fCons (fVar 0) fNil)) (fVar 0) (fC (.int 1))) sNil)
  (sSeq (sSet 2 (fOp dMod (fCB (one dInt) (fCons (fOp dIx (fVar 0) (fC (.int 1))) fNil)) (fVar 1)))
  (sSeq (sSetIx (fOp dFdiv (fOp dIx (fVar 0) (fC (.int 1))) (fVar 1)) (fVar 0) (fC (.int 1)))
  (sRet (fVar 2)))))
def F__law_draw : FN := fnRun 2 3 B__law_draw
def B_does_turn_once : FS := (sSeq (sAsg (fVar 0) (gTp 3 (gCs (gNm 2) (gCs (gNm 3) (gCs (gNm 4) gNl)))))
  (sRet (fAndV (fOp dGe (fVar 1) (fVar 3)) (fOp dGt (fOp dAdd (fOp dMul (fC (.int 2)) (fVar 1)) (fC (.int 2))) (fVar 2)))))
def F_does_turn_once : FN := fnRun 2 5 B_does_turn_once
def B_fooling_signal : FS := (sSeq (sIf (fTru (fCall F_does_turn_once (fCons (fVar 0) (fCons (fVar 1) fNil)))) (sRet (fC .non)) sNil)
  (sSeq (sAsg (fVar 0) (gTp 3 (gCs (gNm 2) (gCs (gNm 3) (gCs (gNm 4) gNl)))))
  (sSeq (sSet 5 (fOp dAdd (fVar 4) (fC (.int 1))))
  (sSeq (sIf (fTst (fOp dLt (fVar 1) (fVar 3))) (sRet (fTup (fCons (fTup fNil) (fCons (fTup (fCons (fVar 5) (fCons (fOp dAdd (fOp dAdd (fVar 5) (fVar 1)) (fC (.int 1))) fNil))) fNil)))) sNil)
  (sSeq (sSet 6 (fOp dAdd (fVar 5) (fOp dMul (fC (.int 2)) (fC (.int 4000)))))
  (sRet (fTup (fCons (fTup (fCons (fVar 5) (fCons (fVar 6) fNil))) (fCons (fTup (fCons (fVar 5) (fCons (fOp dAdd (fOp dAdd (fVar 5) (fVar 1)) (fC (.int 1))) (fCons (fOp dAdd (fOp dAdd (fVar 5) (fOp dMul (fC (.int 2)) (fVar 1))) (fC (.int 2))) (fCons (fVar 6) fNil))))) fNil)))))))))
def F_fooling_signal : FN := fnRun 2 7 B_fooling_signal
def B__law_is_number : FS := (sRet (fAndV (fIsi "int" (fVar 0)) (fAndV (fNotV (fIsi "bool" (fVar 0))) (fCh dLe dLe (fVar 1) (fVar 0) (fVar 2)))))
def F__law_is_number : FN := fnRun 3 3 B__law_is_number
def B__law_are_rising : FS := (sRet (fCB (one dAll) (fCons (fLc (iRng1 (fOp dSub (fCB (one dLen) (fCons (fVar 0) fNil)) (fC (.int 1)))) (gNm 1) fYes (fOp dLt (fOp dIx (fVar 0) (fVar 1)) (fOp dIx (fVar 0) (fOp dAdd (fVar 1) (fC (.int 1))))) [1]) fNil)))
def F__law_are_rising : FN := fnRun 1 2 B__law_are_rising
def B__law_are_numbers : FS := (sSeq (sIf (fOr (fNot (fTru (fIsi "tuple" (fVar 0)))) (fTst (fOp dGt (fCB (one dLen) (fCons (fVar 0) fNil)) (fVar 3)))) (sRet (fC (.bl false))) sNil)
  (sRet (fAndV (fCB (one dAll) (fCons (fLc (iSeq (fVar 0)) (gNm 4) fYes (fCall F__law_is_number (fCons (fVar 4) (fCons (fVar 1) (fCons (fVar 2) fNil)))) [4]) fNil)) (fCall F__law_are_rising (fCons (fVar 0) fNil)))))
def F__law_are_numbers : FN := fnRun 4 5 B__law_are_numbers
def B__law_is_up : FS := (sRet (fOp dEq (fOp dMod (fCB (one dLen) (fCons (fLc (iSeq (fVar 0)) (gNm 2) (fTst (fOp dLe (fVar 2) (fVar 1))) (fVar 2) [2]) fNil)) (fC (.int 2))) (fC (.int 1))))
def F__law_is_up : FN := fnRun 2 3 B__law_is_up
def B__law_marks : FS := (sSeq (sSet 5 (fLstM fNil))
  (sSeq (sFor (iRng2 (fVar 3) (fVar 4)) (gNm 6) (sSeq (sSet 7 (fLc (iSeq (fVar 0)) (gNm 8) (fTst (fCh dLe dLt (fVar 8) (fVar 6) (fOp dAdd (fVar 8) (fVar 2)))) (fVar 8) [8]))
  (sExpr (fMt mAppend (fVar 5) (fCons (fIfE (fTst (fOp dNe (fVar 7) (fLst fNil))) (fC (.int 1)) (fIfE (fTst (fOp dNe (fCall F__law_is_up (fCons (fVar 1) (fCons (fVar 6) fNil))) (fCall F__law_is_up (fCons (fVar 0) (fCons (fVar 6) fNil))))) (fC (.int 2)) (fC (.int 0)))) fNil)))))
  (sRetF (fVar 5))))
def F__law_marks : FN := gcRun (fnRun 5 9 B__law_marks)
def B__law_spans : FS := (sSeq (sPar 3 4 (fSSet (fOp dAdd (fOp dAdd (fOp dAdd (fLst (fCons (fC (.int 0)) fNil)) (fCB (one dList) (fCons (fVar 0) fNil))) (fLc (iSeq (fVar 0)) (gNm 8) fYes (fOp dAdd (fVar 8) (fVar 2)) [8])) (fCB (one dList) (fCons (fVar 1) fNil)))) (fLstM fNil))
  (sSeq (sFor (iRng1 (fCB (one dLen) (fCons (fVar 3) fNil))) (gNm 5) (sSeq (sPar 6 7 (fOp dIx (fCall F__law_marks (fCons (fVar 0) (fCons (fVar 1) (fCons (fVar 2) (fCons (fOp dIx (fVar 3) (fVar 5)) (fCons (fOp dAdd (fOp dIx (fVar 3) (fVar 5)) (fC (.int 1))) fNil)))))) (fC (.int 0))) (fOp dIx (fOp dAdd (fVar 3) (fLst (fCons (fC .non) fNil))) (fOp dAdd (fVar 5) (fC (.int 1)))))
  (sIf (fAnd (fTst (fOp dNe (fVar 4) (fLst fNil))) (fTst (fOp dEq (fOp dIx (fOp dIx (fVar 4) (fUn dNeg (fC (.int 1)))) (fC (.int 2))) (fVar 6)))) (sSetIx (fTup (fCons (fOp dIx (fOp dIx (fVar 4) (fUn dNeg (fC (.int 1)))) (fC (.int 0))) (fCons (fVar 7) (fCons (fVar 6) fNil)))) (fVar 4) (fUn dNeg (fC (.int 1)))) (sExpr (fMt mAppend (fVar 4) (fCons (fTup (fCons (fOp dIx (fVar 3) (fVar 5)) (fCons (fVar 7) (fCons (fVar 6) fNil)))) fNil))))))
  (sRetF (fVar 4))))
def F__law_spans : FN := gcRun (fnRun 3 9 B__law_spans)
def B__law_fits_far : FS := (sSeq (sSet 3 (fCall F__law_spans (fCons (fVar 0) (fCons (fVar 1) (fCons (fOp dIx (fVar 2) (fC (.int 0))) fNil)))))
  (sSeq (sFor (iRng1 (fCB (one dLen) (fCons (fVar 3) fNil))) (gNm 4) (sSeq (sAsg (fOp dIx (fVar 3) (fVar 4)) (gTp 3 (gCs (gNm 5) (gCs (gNm 6) (gCs (gNm 7) gNl)))))
  (sSeq (sIf (fAnd (fTst (fOp dEq (fVar 7) (fC (.int 2)))) (fOr (fTst (fOp dIs (fVar 6) (fC .non))) (fTst (fOp dGt (fOp dSub (fVar 6) (fVar 5)) (fOp dIx (fVar 2) (fC (.int 1))))))) (sRet (fC (.bl false))) sNil)
  (sSeq (sIf (fAnd (fTst (fOp dEq (fVar 7) (fC (.int 2)))) (fAnd (fTst (fOp dGt (fVar 4) (fC (.int 0)))) (fOr (fTst (fOp dNe (fOp dIx (fOp dIx (fVar 3) (fOp dSub (fVar 4) (fC (.int 1)))) (fC (.int 2))) (fC (.int 0)))) (fAnd (fTst (fOp dLt (fC (.int 0)) (fOp dIx (fOp dIx (fVar 3) (fOp dSub (fVar 4) (fC (.int 1)))) (fC (.int 0))))) (fTst (fOp dLt (fOp dSub (fVar 5) (fOp dIx (fOp dIx (fVar 3) (fOp dSub (fVar 4) (fC (.int 1)))) (fC (.int 0)))) (fOp dIx (fVar 2) (fC (.int 2))))))))) (sRet (fC (.bl false))) sNil)
  (sIf (fAnd (fTst (fOp dEq (fVar 7) (fC (.int 2)))) (fOr (fTst (fOp dNe (fOp dIx (fOp dIx (fVar 3) (fOp dAdd (fVar 4) (fC (.int 1)))) (fC (.int 2))) (fC (.int 0)))) (fAnd (fTst (fOp dIsNot (fOp dIx (fOp dIx (fVar 3) (fOp dAdd (fVar 4) (fC (.int 1)))) (fC (.int 1))) (fC .non))) (fTst (fOp dLt (fOp dSub (fOp dIx (fOp dIx (fVar 3) (fOp dAdd (fVar 4) (fC (.int 1)))) (fC (.int 1))) (fVar 6)) (fOp dIx (fVar 2) (fC (.int 2)))))))) (sRet (fC (.bl false))) sNil)))))
  (sRet (fC (.bl true)))))
def F__law_fits_far : FN := fnRun 3 8 B__law_fits_far
def B_is_closed_at : FS := (sRet (fOp dEq (fOp dMod (fCB (one dLen) (fCons (fLc (iSeq (fVar 0)) (gNm 2) (fTst (fOp dLe (fVar 2) (fVar 1))) (fVar 2) [2]) fNil)) (fC (.int 2))) (fC (.int 1))))
def F_is_closed_at : FN := fnRun 2 3 B_is_closed_at
def B_wrong_spans : FS := (sSeq (sPar 2 3 (fLstM fNil) (fC .non))
  (sSeq (sFor (iSeq (fSSet (fOp dAdd (fVar 0) (fVar 1)))) (gNm 4) (sSeq (sSet 5 (fOp dNe (fCall F_is_closed_at (fCons (fVar 1) (fCons (fVar 4) fNil))) (fCall F_is_closed_at (fCons (fVar 0) (fCons (fVar 4) fNil)))))
  (sSeq (sIf (fAnd (fTru (fVar 5)) (fTst (fOp dIs (fVar 3) (fC .non)))) (sSet 3 (fVar 4)) sNil)
  (sIf (fAnd (fNot (fTru (fVar 5))) (fTst (fOp dIsNot (fVar 3) (fC .non)))) (sSeq (sExpr (fMt mAppend (fVar 2) (fCons (fTup (fCons (fVar 3) (fCons (fVar 4) fNil))) fNil)))
  (sSet 3 (fC .non))) sNil))))
  (sRetF (fIfE (fTst (fOp dIs (fVar 3) (fC .non))) (fVar 2) (fOp dAdd (fVar 2) (fLst (fCons (fTup (fCons (fVar 3) (fCons (fC .non) fNil))) fNil)))))))
def F_wrong_spans : FN := gcRun (fnRun 2 6 B_wrong_spans)
def B_bounce_spans : FS := (sSeq (sSet 2 (fLstM fNil))
  (sSeq (sFor (iSeq (fVar 0)) (gNm 3) (sIf (fAnd (fTru (fVar 2)) (fTst (fOp dLe (fVar 3) (fOp dIx (fOp dIx (fVar 2) (fUn dNeg (fC (.int 1)))) (fC (.int 1)))))) (sSetIx (fTup (fCons (fOp dIx (fOp dIx (fVar 2) (fUn dNeg (fC (.int 1)))) (fC (.int 0))) (fCons (fOp dAdd (fVar 3) (fVar 1)) fNil))) (fVar 2) (fUn dNeg (fC (.int 1)))) (sExpr (fMt mAppend (fVar 2) (fCons (fTup (fCons (fVar 3) (fCons (fOp dAdd (fVar 3) (fVar 1)) fNil))) fNil)))))
  (sRetF (fVar 2))))
def F_bounce_spans : FN := gcRun (fnRun 2 4 B_bounce_spans)
def B_without_span : FS := (sSeq (sAsg (fTup (fCons (fVar 0) (fCons (fVar 1) fNil))) (gTp 2 (gCs (gTp 2 (gCs (gNm 2) (gCs (gNm 3) gNl))) (gCs (gTp 2 (gCs (gNm 4) (gCs (gNm 5) gNl))) gNl))))
  (sSeq (sSet 6 (fLstM fNil))
  (sSeq (sIf (fTst (fOp dLt (fVar 2) (fVar 4))) (sExpr (fMt mAppend (fVar 6) (fCons (fTup (fCons (fVar 2) (fCons (fIfE (fOr (fTst (fOp dIs (fVar 3) (fC .non))) (fTst (fOp dGt (fVar 3) (fVar 4)))) (fVar 4) (fVar 3)) fNil))) fNil))) sNil)
  (sSeq (sIf (fOr (fTst (fOp dIs (fVar 3) (fC .non))) (fTst (fOp dGt (fVar 3) (fVar 5)))) (sExpr (fMt mAppend (fVar 6) (fCons (fTup (fCons (fCB (two dMax2) (fCons (fVar 2) (fCons (fVar 5) fNil))) (fCons (fVar 3) fNil))) fNil))) sNil)
  (sRetF (fLc (iSeqF (fVar 6)) (gNm 7) (fOr (fTst (fOp dIs (fOp dIx (fVar 7) (fC (.int 1))) (fC .non))) (fTst (fOp dLt (fOp dIx (fVar 7) (fC (.int 0))) (fOp dIx (fVar 7) (fC (.int 1)))))) (fVar 7) [7]))))))
def F_without_span : FN := gcRun (fnRun 2 8 B_without_span)
def B_bursts_of : FS := (sSeq (sSet 3 (fCall F_wrong_spans (fCons (fVar 0) (fCons (fVar 1) fNil))))
  (sSeq (sFor (iSeq (fCall F_bounce_spans (fCons (fVar 0) (fCons (fVar 2) fNil)))) (gNm 4) (sSet 3 (fLc2 (iSeq (fVar 3)) (gNm 5) fYes (iSeq (fCall F_without_span (fCons (fVar 5) (fCons (fVar 4) fNil)))) (gNm 6) fYes (fVar 6) [5, 6] [6])))
  (sRet (fVar 3))))
def F_bursts_of : FN := fnRun 3 7 B_bursts_of
def B_is_quiet_about : FS := (sSeq (sAsg (fVar 0) (gTp 2 (gCs (gNm 3) (gCs (gNm 4) gNl))))
  (sSeq (sFor (iSeq (fVar 1)) (gTp 2 (gCs (gNm 5) (gCs (gNm 6) gNl))) (sIf (fOr (fAnd (fTst (fOp dGe (fVar 5) (fVar 4))) (fTst (fOp dLt (fOp dSub (fVar 5) (fVar 4)) (fVar 2)))) (fAnd (fTst (fOp dLt (fVar 5) (fVar 3))) (fTst (fOp dLt (fOp dSub (fVar 3) (fVar 6)) (fVar 2))))) (sRet (fC (.bl false))) sNil))
  (sRet (fC (.bl true)))))
def F_is_quiet_about : FN := fnRun 3 7 B_is_quiet_about
def B_fits_signal : FS := (sSeq (sAsg (fVar 2) (gTp 3 (gCs (gNm 3) (gCs (gNm 4) (gCs (gNm 5) gNl)))))
  (sSeq (sPar 6 7 (fCall F_bursts_of (fCons (fVar 0) (fCons (fVar 1) (fCons (fVar 3) fNil)))) (fCall F_bounce_spans (fCons (fVar 0) (fCons (fVar 3) fNil))))
  (sSeq (sIf (fTru (fGx true (iSeq (fVar 6)) (gTp 2 (gCs (gNm 10) (gCs (gNm 11) gNl))) fYes (fOrV (fOp dIs (fVar 11) (fC .non)) (fOp dGt (fOp dSub (fVar 11) (fVar 10)) (fVar 4))) [10, 11])) (sRet (fC (.bl false))) sNil)
  (sSeq (sFor (iSeq (fVar 6)) (gNm 8) (sSeq (sSet 9 (fOp dAdd (fLc (iSeq (fVar 6)) (gNm 12) (fTst (fOp dNe (fVar 12) (fVar 8))) (fVar 12) [12]) (fVar 7)))
  (sIf (fNot (fTru (fCall F_is_quiet_about (fCons (fVar 8) (fCons (fVar 9) (fCons (fVar 5) fNil)))))) (sRet (fC (.bl false))) sNil)))
  (sRet (fC (.bl true)))))))
def F_fits_signal : FN := fnRun 3 13 B_fits_signal
def B_is_number : FS := (sRet (fAndV (fIsi "int" (fVar 0)) (fAndV (fNotV (fIsi "bool" (fVar 0))) (fCh dLe dLe (fVar 1) (fVar 0) (fVar 2)))))
def F_is_number : FN := fnRun 3 3 B_is_number
def B_is_row : FS := (sRet (fAndV (fIsi "tuple" (fVar 0)) (fCh dLe dLe (fVar 1) (fCB (one dLen) (fCons (fVar 0) fNil)) (fVar 2))))
def F_is_row : FN := fnRun 3 3 B_is_row
def B_are_rising : FS := (sRet (fGx false (iZp (fVar 0) (fSl (fVar 0) (fPart (fC (.int 1))) fNo)) (gTp 2 (gCs (gNm 1) (gCs (gNm 2) gNl))) fYes (fOp dLt (fVar 1) (fVar 2)) [1, 2]))
def F_are_rising : FN := fnRun 1 3 B_are_rising
def B_is_signal : FS := (sSeq (sIf (fOr (fNot (fTru (fCall F_is_row (fCons (fVar 0) (fCons (fC (.int 0)) (fCons (fC (.int 400)) fNil)))))) (fNot (fTru (fGx false (iSeq (fVar 0)) (gNm 1) fYes (fCall F_is_number (fCons (fVar 1) (fCons (fC (.int 0)) (fCons (fC (.int 1000000)) fNil)))) [1])))) (sRet (fC (.bl false))) sNil)
  (sRet (fCall F_are_rising (fCons (fVar 0) fNil))))
def F_is_signal : FN := fnRun 1 2 B_is_signal
def B_Settler_init (K : PySem.W.Frag) : FS := (sSeq (sFldD (He.ga K "Settler") "_settle" (fVar 1) (fVar 0))
  (sSeq (sFldD (He.ga K "Settler") "_is_down" (fC (.bl false)) (fVar 0))
  (sFldD (He.ga K "Settler") "_first" (fC .non) (fVar 0))))
def F_Settler_init (K : PySem.W.Frag) : FN := fnRun 2 2 (B_Settler_init K)
def B_Settler_hear (K : PySem.W.Frag) : FS := (sSeq (sIf (fTst (fOp dEq (fVar 2) (fFld (He.ga K "Settler") "_is_down" (fVar 0)))) (sSeq (sFldD (He.ga K "Settler") "_first" (fC .non) (fVar 0))
  (sRet (fC (.bl false)))) sNil)
  (sSeq (sIf (fTst (fOp dIs (fFld (He.ga K "Settler") "_first" (fVar 0)) (fC .non))) (sFldD (He.ga K "Settler") "_first" (fVar 1) (fVar 0)) sNil)
  (sSeq (sIf (fTst (fOp dLt (fOp dSub (fVar 1) (fFld (He.ga K "Settler") "_first" (fVar 0))) (fFld (He.ga K "Settler") "_settle" (fVar 0)))) (sRet (fC (.bl false))) sNil)
  (sSeq (sFld2 (He.ga K "Settler") "_is_down" "_first" (fVar 2) (fC .non) (fVar 0))
  (sRet (fC (.bl true)))))))
def F_Settler_hear (K : PySem.W.Frag) : FN := fnRun 3 3 (B_Settler_hear K)
def B_settled_ticks (K : PySem.W.Frag) : FS := (sSeq (sSet 2 (fMake (He.ga K "Settler") (F_Settler_init K) (fCons (fVar 0) fNil)))
  (sRet (fCB (one dTuple) (fCons (fLc (iSeq (fVar 1)) (gTp 2 (gCs (gNm 3) (gCs (gNm 4) gNl))) (fTru (fMeth (He.ga K "Settler") "hear" (F_Settler_hear K) (fVar 2) (fCons (fVar 3) (fCons (fVar 4) fNil)))) (fVar 3) [3, 4]) fNil))))
def F_settled_ticks (K : PySem.W.Frag) : FN := gcRun (fnRun 2 5 (B_settled_ticks K))
def B__law_turnings : FS := (sSeq (sPar3 2 3 4 (fC (.int 0)) (fC (.bl false)) (fOp dAdd (fOp dAdd (fLst (fCons (fC (.int 0)) fNil)) (fCB (one dList) (fCons (fVar 0) fNil))) (fLst (fCons (fC .non) fNil))))
  (sSeq (sFor (iRng1 (fOp dSub (fCB (one dLen) (fCons (fVar 4) fNil)) (fC (.int 1)))) (gNm 5) (sSeq (sSet 6 (fOrV (fOp dIs (fOp dIx (fVar 4) (fOp dAdd (fVar 5) (fC (.int 1)))) (fC .non)) (fOp dLt (fOp dAdd (fOp dIx (fVar 4) (fVar 5)) (fVar 1)) (fOp dIx (fVar 4) (fOp dAdd (fVar 5) (fC (.int 1)))))))
  (sIf (fAnd (fTst (fOp dNe (fOp dEq (fOp dMod (fVar 5) (fC (.int 2))) (fC (.int 1))) (fVar 3))) (fTru (fVar 6))) (sPar 2 3 (fOp dAdd (fVar 2) (fC (.int 1))) (fNotV (fVar 3))) sNil)))
  (sRet (fVar 2))))
def F__law_turnings : FN := fnRun 2 7 B__law_turnings
def B__law_is_fooled (K : PySem.W.Frag) : FS := (sSeq (sIf (fOr (fNot (fTru (fIsi "tuple" (fVar 2)))) (fTst (fOp dNe (fCB (one dLen) (fCons (fVar 2) fNil)) (fC (.int 2))))) (sRet (fC (.bl false))) sNil)
  (sSeq (sAsg (fVar 2) (gTp 2 (gCs (gNm 3) (gCs (gNm 4) gNl))))
  (sSeq (sIf (fOr (fNot (fTru (fCall F__law_are_numbers (fCons (fVar 3) (fCons (fC (.int 0)) (fCons (fC (.int 1000000)) (fCons (fC (.int 2)) fNil))))))) (fOr (fNot (fTru (fCall F__law_are_numbers (fCons (fVar 4) (fCons (fC (.int 0)) (fCons (fC (.int 1000000)) (fCons (fC (.int 400)) fNil))))))) (fTst (fOp dEq (fCB (one dLen) (fCons (fVar 3) fNil)) (fC (.int 1)))))) (sRet (fC (.bl false))) sNil)
  (sSeq (sIf (fOr (fAnd (fTst (fOp dEq (fCB (one dLen) (fCons (fVar 3) fNil)) (fC (.int 2)))) (fTst (fOp dLe (fOp dSub (fOp dIx (fVar 3) (fC (.int 1))) (fOp dIx (fVar 3) (fC (.int 0)))) (fC (.int 4000))))) (fNot (fTru (fCall F__law_fits_far (fCons (fVar 3) (fCons (fVar 4) (fCons (fVar 0) fNil))))))) (sRet (fC (.bl false))) sNil)
  (sSeq (sIf (fOr (fTst (fOp dIsNot (fCall F_is_signal (fCons (fVar 4) fNil)) (fC (.bl true)))) (fTst (fOp dIsNot (fCall F_fits_signal (fCons (fVar 3) (fCons (fVar 4) (fCons (fVar 0) fNil)))) (fC (.bl true))))) (sRet (fC (.bl false))) sNil)
  (sSeq (sSet 5 (fIfE (fOr (fTst (fOp dEq (fVar 4) (fTup fNil))) (fTst (fOp dGt (fOp dIx (fVar 4) (fUn dNeg (fC (.int 1)))) (fC (.int 2500))))) (fLst fNil) (fLRg1 (fOp dAdd (fOp dAdd (fOp dIx (fVar 4) (fUn dNeg (fC (.int 1)))) (fVar 1)) (fC (.int 1))))))
  (sSeq (sSet 6 (fCall (F_settled_ticks K) (fCons (fVar 1) (fCons (fCB (one dTuple) (fCons (fLc (iSeq (fVar 5)) (gNm 7) fYes (fTup (fCons (fVar 7) (fCons (fCall F__law_is_up (fCons (fVar 4) (fCons (fVar 7) fNil))) fNil))) [7]) fNil)) fNil))))
  (sSeq (sIf (fAnd (fTst (fOp dNe (fVar 5) (fLst fNil))) (fOr (fNot (fTru (fIsi "tuple" (fVar 6)))) (fTst (fOp dNe (fCB (one dLen) (fCons (fVar 6) fNil)) (fCall F__law_turnings (fCons (fVar 4) (fCons (fVar 1) fNil))))))) (sRet (fC (.bl false))) sNil)
  (sRet (fOp dGt (fCall F__law_turnings (fCons (fVar 4) (fCons (fVar 1) fNil))) (fCB (one dLen) (fCons (fVar 3) fNil))))))))))))
def F__law_is_fooled (K : PySem.W.Frag) : FN := fnRun 3 8 (B__law_is_fooled K)
def B_law (K : PySem.W.Frag) : FS := (sSeq (sSet 1 (fCall F__law_box (fCons (fVar 0) fNil)))
  (sSeq (sIf (fNot (fTru (fCall F__law_same (fCons (fC (.int 4000)) (fCons (fC (.int 4000)) fNil))))) (sRet (fC (.bl false))) sNil)
  (sSeq (sFor (iRng1 (fC (.int 4))) (gNm 2) (sSeq (sSet 3 (fOp dIx (fLst (fCons (fC (.int 8)) (fCons (fC (.int 60)) (fCons (fC (.int 1000)) (fCons (fC (.int 1000)) fNil))))) (fVar 2)))
  (sSeq (sPar3 4 5 6 (fOp dAdd (fC (.int 1)) (fCall F__law_draw (fCons (fVar 1) (fCons (fVar 3) fNil)))) (fCall F__law_draw (fCons (fVar 1) (fCons (fOp dAdd (fVar 3) (fC (.int 1))) fNil))) (fOp dAdd (fC (.int 1)) (fCall F__law_draw (fCons (fVar 1) (fCons (fVar 3) fNil)))))
  (sSeq (sSet 5 (fIfE (fTst (fOp dEq (fCall F__law_draw (fCons (fVar 1) (fCons (fC (.int 3)) fNil))) (fC (.int 0)))) (fC (.int 0)) (fVar 5)))
  (sSeq (sSet 7 (fOp dIx (fLst (fCons (fOp dSub (fVar 5) (fC (.int 1))) (fCons (fVar 5) (fCons (fOp dSub (fOp dFdiv (fVar 4) (fC (.int 2))) (fC (.int 1))) (fCons (fOp dFdiv (fVar 4) (fC (.int 2))) (fCons (fOp dAdd (fC (.int 1)) (fCall F__law_draw (fCons (fVar 1) (fCons (fVar 3) fNil)))) fNil)))))) (fCall F__law_draw (fCons (fVar 1) (fCons (fC (.int 5)) fNil)))))
  (sSeq (sPar 8 9 (fCB (two dMax2) (fCons (fC (.int 1)) (fCons (fVar 7) fNil))) (fTup (fCons (fVar 4) (fCons (fVar 5) (fCons (fVar 6) fNil)))))
  (sSeq (sSet 10 (fCall F_fooling_signal (fCons (fVar 9) (fCons (fVar 8) fNil))))
  (sIf (fAnd (fTst (fOp dGe (fVar 8) (fVar 5))) (fTst (fOp dGt (fOp dAdd (fOp dMul (fC (.int 2)) (fVar 8)) (fC (.int 2))) (fVar 4)))) (sIf (fTst (fOp dIsNot (fVar 10) (fC .non))) (sRet (fC (.bl false))) sNil) (sIf (fNot (fTru (fCall (F__law_is_fooled K) (fCons (fVar 9) (fCons (fVar 8) (fCons (fVar 10) fNil)))))) (sRet (fC (.bl false))) sNil)))))))))
  (sRet (fC (.bl true))))))
def F_law (K : PySem.W.Frag) : FN := fnRun 1 11 (B_law K)
theorem run__law_box {ds : List D} {sl sl' : Slots} {S S' : Store} {d : D} (h0 : ds.length = 1) (h1 : dstart 1 ds = sl) (h2 : (sRet (fLstM (fCons (fListM (fCons (fSl (fVar 0) fNo (fPart (fC (.int 63)))) fNil)) (fCons (fC (.int 0)) (fCons (fOp dAdd (fC (.int 4711)) (fCB (one dLen) (fCons (fVar 0) fNil))) fNil))))) sl S = some (.ret d, sl', S')) : F__law_box ds S = some (d, S') := jRun' h0 h1 h2
theorem run__law_same {ds : List D} {sl sl' : Slots} {S S' : Store} {d : D} (h0 : ds.length = 2) (h1 : dstart 3 ds = sl) (h2 : (sSeq (sIf (fOr (fAnd (fTru (fIsi "tuple" (fVar 0))) (fTru (fIsi "tuple" (fVar 1)))) (fAnd (fTru (fIsi "list" (fVar 0))) (fTru (fIsi "list" (fVar 1))))) sBad sNil)
  (sSeq (sIf (fOr (fTru (fIsi "bool" (fVar 0))) (fTru (fIsi "bool" (fVar 1)))) (sRet (fAndV (fIsi "bool" (fVar 0)) (fAndV (fIsi "bool" (fVar 1)) (fOp dEq (fVar 0) (fVar 1))))) sNil)
  (sSeq (sIf (fOr (fAnd (fTru (fIsi "int" (fVar 0))) (fTru (fIsi "int" (fVar 1)))) (fAnd (fTru (fIsi "str" (fVar 0))) (fTru (fIsi "str" (fVar 1))))) (sRet (fOp dEq (fVar 0) (fVar 1))) sNil)
  (sRet (fAndV (fOp dIs (fVar 0) (fC .non)) (fOp dIs (fVar 1) (fC .non))))))) sl S = some (.ret d, sl', S')) : F__law_same ds S = some (d, S') := jRun' h0 h1 h2
theorem run__law_load {ds : List D} {sl sl' : Slots} {S S' : Store} {d : D} (h0 : ds.length = 1) (h1 : dstart 6 ds = sl) (h2 : (sSeq (sSet 1 (fOp dIx (fVar 0) (fC (.int 0))))
  (sSeq (sIf (fTst (fOp dGt (fCB (one dLen) (fCons (fVar 1) fNil)) (fC (.int 0)))) (sSeq (sSet 2 (fCB (one dInt) (fCons (fMt mPopAt (fVar 1) (fCons (fC (.int 0)) fNil)) fNil)))
  (sSeq (sSet 3 (fIfE (fTst (fOp dGe (fVar 2) (fC (.int 0)))) (fOp dMul (fC (.int 2)) (fVar 2)) (fOp dSub (fOp dMul (fUn dNeg (fC (.int 2))) (fVar 2)) (fC (.int 1)))))
  (sSeq (sIf (fTst (fOp dGe (fVar 3) (fC (.int 1000000000000000000)))) (sRet (fVar 3)) sNil)
  (sSetIx (fOp dMod (fCB (one dInt) (fCons (fOp dAdd (fOp dAdd (fOp dMul (fOp dIx (fVar 0) (fC (.int 2))) (fC (.int 69621))) (fOp dMul (fVar 3) (fC (.int 48271)))) (fC (.int 11))) fNil)) (fC (.int 2147483647))) (fVar 0) (fC (.int 2)))))) sNil)
  (sSeq (sSet 4 (fOp dMod (fCB (one dInt) (fCons (fOp dAdd (fOp dMul (fOp dIx (fVar 0) (fC (.int 2))) (fC (.int 48271))) (fC (.int 17))) fNil)) (fC (.int 2147483629))))
  (sSeq (sSet 5 (fOp dMod (fCB (one dInt) (fCons (fOp dAdd (fOp dMul (fVar 4) (fC (.int 69621))) (fC (.int 5))) fNil)) (fC (.int 2147483587))))
  (sSeq (sSetIx (fOp dMod (fCB (one dInt) (fCons (fOp dAdd (fOp dMul (fVar 5) (fC (.int 40692))) (fC (.int 3))) fNil)) (fC (.int 2147483563))) (fVar 0) (fC (.int 2)))
  (sRet (fOp dAdd (fOp dAdd (fOp dMul (fVar 4) (fC (.int 4611686014132420609))) (fOp dMul (fVar 5) (fC (.int 2147483647)))) (fOp dIx (fVar 0) (fC (.int 2)))))))))) sl S = some (.ret d, sl', S')) : F__law_load ds S = some (d, S') := jRun' h0 h1 h2
theorem run__law_draw {ds : List D} {sl sl' : Slots} {S S' : Store} {d : D} (h0 : ds.length = 2) (h1 : dstart 3 ds = sl) (h2 : (sSeq (sIf (fTst (fOp dLt (fOp dIx (fVar 0) (fC (.int 1))) (fVar 1))) (sSetIx (fCall F__law_load (fCons (fVar 0) fNil)) (fVar 0) (fC (.int 1))) sNil)
  (sSeq (sSet 2 (fOp dMod (fCB (one dInt) (fCons (fOp dIx (fVar 0) (fC (.int 1))) fNil)) (fVar 1)))
  (sSeq (sSetIx (fOp dFdiv (fOp dIx (fVar 0) (fC (.int 1))) (fVar 1)) (fVar 0) (fC (.int 1)))
  (sRet (fVar 2))))) sl S = some (.ret d, sl', S')) : F__law_draw ds S = some (d, S') := jRun' h0 h1 h2
theorem run_does_turn_once {ds : List D} {sl sl' : Slots} {S S' : Store} {d : D} (h0 : ds.length = 2) (h1 : dstart 5 ds = sl) (h2 : (sSeq (sAsg (fVar 0) (gTp 3 (gCs (gNm 2) (gCs (gNm 3) (gCs (gNm 4) gNl)))))
  (sRet (fAndV (fOp dGe (fVar 1) (fVar 3)) (fOp dGt (fOp dAdd (fOp dMul (fC (.int 2)) (fVar 1)) (fC (.int 2))) (fVar 2))))) sl S = some (.ret d, sl', S')) : F_does_turn_once ds S = some (d, S') := jRun' h0 h1 h2
theorem run_fooling_signal {ds : List D} {sl sl' : Slots} {S S' : Store} {d : D} (h0 : ds.length = 2) (h1 : dstart 7 ds = sl) (h2 : (sSeq (sIf (fTru (fCall F_does_turn_once (fCons (fVar 0) (fCons (fVar 1) fNil)))) (sRet (fC .non)) sNil)
  (sSeq (sAsg (fVar 0) (gTp 3 (gCs (gNm 2) (gCs (gNm 3) (gCs (gNm 4) gNl)))))
  (sSeq (sSet 5 (fOp dAdd (fVar 4) (fC (.int 1))))
  (sSeq (sIf (fTst (fOp dLt (fVar 1) (fVar 3))) (sRet (fTup (fCons (fTup fNil) (fCons (fTup (fCons (fVar 5) (fCons (fOp dAdd (fOp dAdd (fVar 5) (fVar 1)) (fC (.int 1))) fNil))) fNil)))) sNil)
  (sSeq (sSet 6 (fOp dAdd (fVar 5) (fOp dMul (fC (.int 2)) (fC (.int 4000)))))
  (sRet (fTup (fCons (fTup (fCons (fVar 5) (fCons (fVar 6) fNil))) (fCons (fTup (fCons (fVar 5) (fCons (fOp dAdd (fOp dAdd (fVar 5) (fVar 1)) (fC (.int 1))) (fCons (fOp dAdd (fOp dAdd (fVar 5) (fOp dMul (fC (.int 2)) (fVar 1))) (fC (.int 2))) (fCons (fVar 6) fNil))))) fNil))))))))) sl S = some (.ret d, sl', S')) : F_fooling_signal ds S = some (d, S') := jRun' h0 h1 h2
theorem run__law_is_number {ds : List D} {sl sl' : Slots} {S S' : Store} {d : D} (h0 : ds.length = 3) (h1 : dstart 3 ds = sl) (h2 : (sRet (fAndV (fIsi "int" (fVar 0)) (fAndV (fNotV (fIsi "bool" (fVar 0))) (fCh dLe dLe (fVar 1) (fVar 0) (fVar 2))))) sl S = some (.ret d, sl', S')) : F__law_is_number ds S = some (d, S') := jRun' h0 h1 h2
theorem run__law_are_rising {ds : List D} {sl sl' : Slots} {S S' : Store} {d : D} (h0 : ds.length = 1) (h1 : dstart 2 ds = sl) (h2 : (sRet (fCB (one dAll) (fCons (fLc (iRng1 (fOp dSub (fCB (one dLen) (fCons (fVar 0) fNil)) (fC (.int 1)))) (gNm 1) fYes (fOp dLt (fOp dIx (fVar 0) (fVar 1)) (fOp dIx (fVar 0) (fOp dAdd (fVar 1) (fC (.int 1))))) [1]) fNil))) sl S = some (.ret d, sl', S')) : F__law_are_rising ds S = some (d, S') := jRun' h0 h1 h2
theorem run__law_are_numbers {ds : List D} {sl sl' : Slots} {S S' : Store} {d : D} (h0 : ds.length = 4) (h1 : dstart 5 ds = sl) (h2 : (sSeq (sIf (fOr (fNot (fTru (fIsi "tuple" (fVar 0)))) (fTst (fOp dGt (fCB (one dLen) (fCons (fVar 0) fNil)) (fVar 3)))) (sRet (fC (.bl false))) sNil)
  (sRet (fAndV (fCB (one dAll) (fCons (fLc (iSeq (fVar 0)) (gNm 4) fYes (fCall F__law_is_number (fCons (fVar 4) (fCons (fVar 1) (fCons (fVar 2) fNil)))) [4]) fNil)) (fCall F__law_are_rising (fCons (fVar 0) fNil))))) sl S = some (.ret d, sl', S')) : F__law_are_numbers ds S = some (d, S') := jRun' h0 h1 h2
theorem run__law_is_up {ds : List D} {sl sl' : Slots} {S S' : Store} {d : D} (h0 : ds.length = 2) (h1 : dstart 3 ds = sl) (h2 : (sRet (fOp dEq (fOp dMod (fCB (one dLen) (fCons (fLc (iSeq (fVar 0)) (gNm 2) (fTst (fOp dLe (fVar 2) (fVar 1))) (fVar 2) [2]) fNil)) (fC (.int 2))) (fC (.int 1)))) sl S = some (.ret d, sl', S')) : F__law_is_up ds S = some (d, S') := jRun' h0 h1 h2
theorem run__law_marks {ds : List D} {sl sl' : Slots} {S S' : Store} {d : D} (h0 : ds.length = 5) (h1 : dstart 9 ds = sl) (h2 : (sSeq (sSet 5 (fLstM fNil))
  (sSeq (sFor (iRng2 (fVar 3) (fVar 4)) (gNm 6) (sSeq (sSet 7 (fLc (iSeq (fVar 0)) (gNm 8) (fTst (fCh dLe dLt (fVar 8) (fVar 6) (fOp dAdd (fVar 8) (fVar 2)))) (fVar 8) [8]))
  (sExpr (fMt mAppend (fVar 5) (fCons (fIfE (fTst (fOp dNe (fVar 7) (fLst fNil))) (fC (.int 1)) (fIfE (fTst (fOp dNe (fCall F__law_is_up (fCons (fVar 1) (fCons (fVar 6) fNil))) (fCall F__law_is_up (fCons (fVar 0) (fCons (fVar 6) fNil))))) (fC (.int 2)) (fC (.int 0)))) fNil)))))
  (sRetF (fVar 5)))) sl S = some (.ret d, sl', S')) : (fnRun 5 9 B__law_marks) ds S = some (d, S') := jRun' h0 h1 h2
theorem run__law_spans {ds : List D} {sl sl' : Slots} {S S' : Store} {d : D} (h0 : ds.length = 3) (h1 : dstart 9 ds = sl) (h2 : (sSeq (sPar 3 4 (fSSet (fOp dAdd (fOp dAdd (fOp dAdd (fLst (fCons (fC (.int 0)) fNil)) (fCB (one dList) (fCons (fVar 0) fNil))) (fLc (iSeq (fVar 0)) (gNm 8) fYes (fOp dAdd (fVar 8) (fVar 2)) [8])) (fCB (one dList) (fCons (fVar 1) fNil)))) (fLstM fNil))
  (sSeq (sFor (iRng1 (fCB (one dLen) (fCons (fVar 3) fNil))) (gNm 5) (sSeq (sPar 6 7 (fOp dIx (fCall F__law_marks (fCons (fVar 0) (fCons (fVar 1) (fCons (fVar 2) (fCons (fOp dIx (fVar 3) (fVar 5)) (fCons (fOp dAdd (fOp dIx (fVar 3) (fVar 5)) (fC (.int 1))) fNil)))))) (fC (.int 0))) (fOp dIx (fOp dAdd (fVar 3) (fLst (fCons (fC .non) fNil))) (fOp dAdd (fVar 5) (fC (.int 1)))))
  (sIf (fAnd (fTst (fOp dNe (fVar 4) (fLst fNil))) (fTst (fOp dEq (fOp dIx (fOp dIx (fVar 4) (fUn dNeg (fC (.int 1)))) (fC (.int 2))) (fVar 6)))) (sSetIx (fTup (fCons (fOp dIx (fOp dIx (fVar 4) (fUn dNeg (fC (.int 1)))) (fC (.int 0))) (fCons (fVar 7) (fCons (fVar 6) fNil)))) (fVar 4) (fUn dNeg (fC (.int 1)))) (sExpr (fMt mAppend (fVar 4) (fCons (fTup (fCons (fOp dIx (fVar 3) (fVar 5)) (fCons (fVar 7) (fCons (fVar 6) fNil)))) fNil))))))
  (sRetF (fVar 4)))) sl S = some (.ret d, sl', S')) : (fnRun 3 9 B__law_spans) ds S = some (d, S') := jRun' h0 h1 h2
theorem run__law_fits_far {ds : List D} {sl sl' : Slots} {S S' : Store} {d : D} (h0 : ds.length = 3) (h1 : dstart 8 ds = sl) (h2 : (sSeq (sSet 3 (fCall F__law_spans (fCons (fVar 0) (fCons (fVar 1) (fCons (fOp dIx (fVar 2) (fC (.int 0))) fNil)))))
  (sSeq (sFor (iRng1 (fCB (one dLen) (fCons (fVar 3) fNil))) (gNm 4) (sSeq (sAsg (fOp dIx (fVar 3) (fVar 4)) (gTp 3 (gCs (gNm 5) (gCs (gNm 6) (gCs (gNm 7) gNl)))))
  (sSeq (sIf (fAnd (fTst (fOp dEq (fVar 7) (fC (.int 2)))) (fOr (fTst (fOp dIs (fVar 6) (fC .non))) (fTst (fOp dGt (fOp dSub (fVar 6) (fVar 5)) (fOp dIx (fVar 2) (fC (.int 1))))))) (sRet (fC (.bl false))) sNil)
  (sSeq (sIf (fAnd (fTst (fOp dEq (fVar 7) (fC (.int 2)))) (fAnd (fTst (fOp dGt (fVar 4) (fC (.int 0)))) (fOr (fTst (fOp dNe (fOp dIx (fOp dIx (fVar 3) (fOp dSub (fVar 4) (fC (.int 1)))) (fC (.int 2))) (fC (.int 0)))) (fAnd (fTst (fOp dLt (fC (.int 0)) (fOp dIx (fOp dIx (fVar 3) (fOp dSub (fVar 4) (fC (.int 1)))) (fC (.int 0))))) (fTst (fOp dLt (fOp dSub (fVar 5) (fOp dIx (fOp dIx (fVar 3) (fOp dSub (fVar 4) (fC (.int 1)))) (fC (.int 0)))) (fOp dIx (fVar 2) (fC (.int 2))))))))) (sRet (fC (.bl false))) sNil)
  (sIf (fAnd (fTst (fOp dEq (fVar 7) (fC (.int 2)))) (fOr (fTst (fOp dNe (fOp dIx (fOp dIx (fVar 3) (fOp dAdd (fVar 4) (fC (.int 1)))) (fC (.int 2))) (fC (.int 0)))) (fAnd (fTst (fOp dIsNot (fOp dIx (fOp dIx (fVar 3) (fOp dAdd (fVar 4) (fC (.int 1)))) (fC (.int 1))) (fC .non))) (fTst (fOp dLt (fOp dSub (fOp dIx (fOp dIx (fVar 3) (fOp dAdd (fVar 4) (fC (.int 1)))) (fC (.int 1))) (fVar 6)) (fOp dIx (fVar 2) (fC (.int 2)))))))) (sRet (fC (.bl false))) sNil)))))
  (sRet (fC (.bl true))))) sl S = some (.ret d, sl', S')) : F__law_fits_far ds S = some (d, S') := jRun' h0 h1 h2
theorem run_is_closed_at {ds : List D} {sl sl' : Slots} {S S' : Store} {d : D} (h0 : ds.length = 2) (h1 : dstart 3 ds = sl) (h2 : (sRet (fOp dEq (fOp dMod (fCB (one dLen) (fCons (fLc (iSeq (fVar 0)) (gNm 2) (fTst (fOp dLe (fVar 2) (fVar 1))) (fVar 2) [2]) fNil)) (fC (.int 2))) (fC (.int 1)))) sl S = some (.ret d, sl', S')) : F_is_closed_at ds S = some (d, S') := jRun' h0 h1 h2
theorem run_wrong_spans {ds : List D} {sl sl' : Slots} {S S' : Store} {d : D} (h0 : ds.length = 2) (h1 : dstart 6 ds = sl) (h2 : (sSeq (sPar 2 3 (fLstM fNil) (fC .non))
  (sSeq (sFor (iSeq (fSSet (fOp dAdd (fVar 0) (fVar 1)))) (gNm 4) (sSeq (sSet 5 (fOp dNe (fCall F_is_closed_at (fCons (fVar 1) (fCons (fVar 4) fNil))) (fCall F_is_closed_at (fCons (fVar 0) (fCons (fVar 4) fNil)))))
  (sSeq (sIf (fAnd (fTru (fVar 5)) (fTst (fOp dIs (fVar 3) (fC .non)))) (sSet 3 (fVar 4)) sNil)
  (sIf (fAnd (fNot (fTru (fVar 5))) (fTst (fOp dIsNot (fVar 3) (fC .non)))) (sSeq (sExpr (fMt mAppend (fVar 2) (fCons (fTup (fCons (fVar 3) (fCons (fVar 4) fNil))) fNil)))
  (sSet 3 (fC .non))) sNil))))
  (sRetF (fIfE (fTst (fOp dIs (fVar 3) (fC .non))) (fVar 2) (fOp dAdd (fVar 2) (fLst (fCons (fTup (fCons (fVar 3) (fCons (fC .non) fNil))) fNil))))))) sl S = some (.ret d, sl', S')) : (fnRun 2 6 B_wrong_spans) ds S = some (d, S') := jRun' h0 h1 h2
theorem run_bounce_spans {ds : List D} {sl sl' : Slots} {S S' : Store} {d : D} (h0 : ds.length = 2) (h1 : dstart 4 ds = sl) (h2 : (sSeq (sSet 2 (fLstM fNil))
  (sSeq (sFor (iSeq (fVar 0)) (gNm 3) (sIf (fAnd (fTru (fVar 2)) (fTst (fOp dLe (fVar 3) (fOp dIx (fOp dIx (fVar 2) (fUn dNeg (fC (.int 1)))) (fC (.int 1)))))) (sSetIx (fTup (fCons (fOp dIx (fOp dIx (fVar 2) (fUn dNeg (fC (.int 1)))) (fC (.int 0))) (fCons (fOp dAdd (fVar 3) (fVar 1)) fNil))) (fVar 2) (fUn dNeg (fC (.int 1)))) (sExpr (fMt mAppend (fVar 2) (fCons (fTup (fCons (fVar 3) (fCons (fOp dAdd (fVar 3) (fVar 1)) fNil))) fNil)))))
  (sRetF (fVar 2)))) sl S = some (.ret d, sl', S')) : (fnRun 2 4 B_bounce_spans) ds S = some (d, S') := jRun' h0 h1 h2
theorem run_without_span {ds : List D} {sl sl' : Slots} {S S' : Store} {d : D} (h0 : ds.length = 2) (h1 : dstart 8 ds = sl) (h2 : (sSeq (sAsg (fTup (fCons (fVar 0) (fCons (fVar 1) fNil))) (gTp 2 (gCs (gTp 2 (gCs (gNm 2) (gCs (gNm 3) gNl))) (gCs (gTp 2 (gCs (gNm 4) (gCs (gNm 5) gNl))) gNl))))
  (sSeq (sSet 6 (fLstM fNil))
  (sSeq (sIf (fTst (fOp dLt (fVar 2) (fVar 4))) (sExpr (fMt mAppend (fVar 6) (fCons (fTup (fCons (fVar 2) (fCons (fIfE (fOr (fTst (fOp dIs (fVar 3) (fC .non))) (fTst (fOp dGt (fVar 3) (fVar 4)))) (fVar 4) (fVar 3)) fNil))) fNil))) sNil)
  (sSeq (sIf (fOr (fTst (fOp dIs (fVar 3) (fC .non))) (fTst (fOp dGt (fVar 3) (fVar 5)))) (sExpr (fMt mAppend (fVar 6) (fCons (fTup (fCons (fCB (two dMax2) (fCons (fVar 2) (fCons (fVar 5) fNil))) (fCons (fVar 3) fNil))) fNil))) sNil)
  (sRetF (fLc (iSeqF (fVar 6)) (gNm 7) (fOr (fTst (fOp dIs (fOp dIx (fVar 7) (fC (.int 1))) (fC .non))) (fTst (fOp dLt (fOp dIx (fVar 7) (fC (.int 0))) (fOp dIx (fVar 7) (fC (.int 1)))))) (fVar 7) [7])))))) sl S = some (.ret d, sl', S')) : (fnRun 2 8 B_without_span) ds S = some (d, S') := jRun' h0 h1 h2
theorem run_bursts_of {ds : List D} {sl sl' : Slots} {S S' : Store} {d : D} (h0 : ds.length = 3) (h1 : dstart 7 ds = sl) (h2 : (sSeq (sSet 3 (fCall F_wrong_spans (fCons (fVar 0) (fCons (fVar 1) fNil))))
  (sSeq (sFor (iSeq (fCall F_bounce_spans (fCons (fVar 0) (fCons (fVar 2) fNil)))) (gNm 4) (sSet 3 (fLc2 (iSeq (fVar 3)) (gNm 5) fYes (iSeq (fCall F_without_span (fCons (fVar 5) (fCons (fVar 4) fNil)))) (gNm 6) fYes (fVar 6) [5, 6] [6])))
  (sRet (fVar 3)))) sl S = some (.ret d, sl', S')) : F_bursts_of ds S = some (d, S') := jRun' h0 h1 h2
theorem run_is_quiet_about {ds : List D} {sl sl' : Slots} {S S' : Store} {d : D} (h0 : ds.length = 3) (h1 : dstart 7 ds = sl) (h2 : (sSeq (sAsg (fVar 0) (gTp 2 (gCs (gNm 3) (gCs (gNm 4) gNl))))
  (sSeq (sFor (iSeq (fVar 1)) (gTp 2 (gCs (gNm 5) (gCs (gNm 6) gNl))) (sIf (fOr (fAnd (fTst (fOp dGe (fVar 5) (fVar 4))) (fTst (fOp dLt (fOp dSub (fVar 5) (fVar 4)) (fVar 2)))) (fAnd (fTst (fOp dLt (fVar 5) (fVar 3))) (fTst (fOp dLt (fOp dSub (fVar 3) (fVar 6)) (fVar 2))))) (sRet (fC (.bl false))) sNil))
  (sRet (fC (.bl true))))) sl S = some (.ret d, sl', S')) : F_is_quiet_about ds S = some (d, S') := jRun' h0 h1 h2
theorem run_fits_signal {ds : List D} {sl sl' : Slots} {S S' : Store} {d : D} (h0 : ds.length = 3) (h1 : dstart 13 ds = sl) (h2 : (sSeq (sAsg (fVar 2) (gTp 3 (gCs (gNm 3) (gCs (gNm 4) (gCs (gNm 5) gNl)))))
  (sSeq (sPar 6 7 (fCall F_bursts_of (fCons (fVar 0) (fCons (fVar 1) (fCons (fVar 3) fNil)))) (fCall F_bounce_spans (fCons (fVar 0) (fCons (fVar 3) fNil))))
  (sSeq (sIf (fTru (fGx true (iSeq (fVar 6)) (gTp 2 (gCs (gNm 10) (gCs (gNm 11) gNl))) fYes (fOrV (fOp dIs (fVar 11) (fC .non)) (fOp dGt (fOp dSub (fVar 11) (fVar 10)) (fVar 4))) [10, 11])) (sRet (fC (.bl false))) sNil)
  (sSeq (sFor (iSeq (fVar 6)) (gNm 8) (sSeq (sSet 9 (fOp dAdd (fLc (iSeq (fVar 6)) (gNm 12) (fTst (fOp dNe (fVar 12) (fVar 8))) (fVar 12) [12]) (fVar 7)))
  (sIf (fNot (fTru (fCall F_is_quiet_about (fCons (fVar 8) (fCons (fVar 9) (fCons (fVar 5) fNil)))))) (sRet (fC (.bl false))) sNil)))
  (sRet (fC (.bl true))))))) sl S = some (.ret d, sl', S')) : F_fits_signal ds S = some (d, S') := jRun' h0 h1 h2
theorem run_is_number {ds : List D} {sl sl' : Slots} {S S' : Store} {d : D} (h0 : ds.length = 3) (h1 : dstart 3 ds = sl) (h2 : (sRet (fAndV (fIsi "int" (fVar 0)) (fAndV (fNotV (fIsi "bool" (fVar 0))) (fCh dLe dLe (fVar 1) (fVar 0) (fVar 2))))) sl S = some (.ret d, sl', S')) : F_is_number ds S = some (d, S') := jRun' h0 h1 h2
theorem run_is_row {ds : List D} {sl sl' : Slots} {S S' : Store} {d : D} (h0 : ds.length = 3) (h1 : dstart 3 ds = sl) (h2 : (sRet (fAndV (fIsi "tuple" (fVar 0)) (fCh dLe dLe (fVar 1) (fCB (one dLen) (fCons (fVar 0) fNil)) (fVar 2)))) sl S = some (.ret d, sl', S')) : F_is_row ds S = some (d, S') := jRun' h0 h1 h2
theorem run_are_rising {ds : List D} {sl sl' : Slots} {S S' : Store} {d : D} (h0 : ds.length = 1) (h1 : dstart 3 ds = sl) (h2 : (sRet (fGx false (iZp (fVar 0) (fSl (fVar 0) (fPart (fC (.int 1))) fNo)) (gTp 2 (gCs (gNm 1) (gCs (gNm 2) gNl))) fYes (fOp dLt (fVar 1) (fVar 2)) [1, 2])) sl S = some (.ret d, sl', S')) : F_are_rising ds S = some (d, S') := jRun' h0 h1 h2
theorem run_is_signal {ds : List D} {sl sl' : Slots} {S S' : Store} {d : D} (h0 : ds.length = 1) (h1 : dstart 2 ds = sl) (h2 : (sSeq (sIf (fOr (fNot (fTru (fCall F_is_row (fCons (fVar 0) (fCons (fC (.int 0)) (fCons (fC (.int 400)) fNil)))))) (fNot (fTru (fGx false (iSeq (fVar 0)) (gNm 1) fYes (fCall F_is_number (fCons (fVar 1) (fCons (fC (.int 0)) (fCons (fC (.int 1000000)) fNil)))) [1])))) (sRet (fC (.bl false))) sNil)
  (sRet (fCall F_are_rising (fCons (fVar 0) fNil)))) sl S = some (.ret d, sl', S')) : F_is_signal ds S = some (d, S') := jRun' h0 h1 h2
theorem run_Settler_init {K : PySem.W.Frag} {ds : List D} {sl sl' : Slots} {S S' : Store} {d : D} (h0 : ds.length = 2) (h1 : dstart 2 ds = sl) (h2 : (sSeq (sFldD (He.ga K "Settler") "_settle" (fVar 1) (fVar 0))
  (sSeq (sFldD (He.ga K "Settler") "_is_down" (fC (.bl false)) (fVar 0))
  (sFldD (He.ga K "Settler") "_first" (fC .non) (fVar 0)))) sl S = some (.ret d, sl', S')) : (F_Settler_init K) ds S = some (d, S') := jRun' h0 h1 h2
theorem run_Settler_hear {K : PySem.W.Frag} {ds : List D} {sl sl' : Slots} {S S' : Store} {d : D} (h0 : ds.length = 3) (h1 : dstart 3 ds = sl) (h2 : (sSeq (sIf (fTst (fOp dEq (fVar 2) (fFld (He.ga K "Settler") "_is_down" (fVar 0)))) (sSeq (sFldD (He.ga K "Settler") "_first" (fC .non) (fVar 0))
  (sRet (fC (.bl false)))) sNil)
  (sSeq (sIf (fTst (fOp dIs (fFld (He.ga K "Settler") "_first" (fVar 0)) (fC .non))) (sFldD (He.ga K "Settler") "_first" (fVar 1) (fVar 0)) sNil)
  (sSeq (sIf (fTst (fOp dLt (fOp dSub (fVar 1) (fFld (He.ga K "Settler") "_first" (fVar 0))) (fFld (He.ga K "Settler") "_settle" (fVar 0)))) (sRet (fC (.bl false))) sNil)
  (sSeq (sFld2 (He.ga K "Settler") "_is_down" "_first" (fVar 2) (fC .non) (fVar 0))
  (sRet (fC (.bl true))))))) sl S = some (.ret d, sl', S')) : (F_Settler_hear K) ds S = some (d, S') := jRun' h0 h1 h2
theorem run_settled_ticks {K : PySem.W.Frag} {ds : List D} {sl sl' : Slots} {S S' : Store} {d : D} (h0 : ds.length = 2) (h1 : dstart 5 ds = sl) (h2 : (sSeq (sSet 2 (fMake (He.ga K "Settler") (F_Settler_init K) (fCons (fVar 0) fNil)))
  (sRet (fCB (one dTuple) (fCons (fLc (iSeq (fVar 1)) (gTp 2 (gCs (gNm 3) (gCs (gNm 4) gNl))) (fTru (fMeth (He.ga K "Settler") "hear" (F_Settler_hear K) (fVar 2) (fCons (fVar 3) (fCons (fVar 4) fNil)))) (fVar 3) [3, 4]) fNil)))) sl S = some (.ret d, sl', S')) : (fnRun 2 5 (B_settled_ticks K)) ds S = some (d, S') := jRun' h0 h1 h2
theorem run__law_turnings {ds : List D} {sl sl' : Slots} {S S' : Store} {d : D} (h0 : ds.length = 2) (h1 : dstart 7 ds = sl) (h2 : (sSeq (sPar3 2 3 4 (fC (.int 0)) (fC (.bl false)) (fOp dAdd (fOp dAdd (fLst (fCons (fC (.int 0)) fNil)) (fCB (one dList) (fCons (fVar 0) fNil))) (fLst (fCons (fC .non) fNil))))
  (sSeq (sFor (iRng1 (fOp dSub (fCB (one dLen) (fCons (fVar 4) fNil)) (fC (.int 1)))) (gNm 5) (sSeq (sSet 6 (fOrV (fOp dIs (fOp dIx (fVar 4) (fOp dAdd (fVar 5) (fC (.int 1)))) (fC .non)) (fOp dLt (fOp dAdd (fOp dIx (fVar 4) (fVar 5)) (fVar 1)) (fOp dIx (fVar 4) (fOp dAdd (fVar 5) (fC (.int 1)))))))
  (sIf (fAnd (fTst (fOp dNe (fOp dEq (fOp dMod (fVar 5) (fC (.int 2))) (fC (.int 1))) (fVar 3))) (fTru (fVar 6))) (sPar 2 3 (fOp dAdd (fVar 2) (fC (.int 1))) (fNotV (fVar 3))) sNil)))
  (sRet (fVar 2)))) sl S = some (.ret d, sl', S')) : F__law_turnings ds S = some (d, S') := jRun' h0 h1 h2
theorem run__law_is_fooled {K : PySem.W.Frag} {ds : List D} {sl sl' : Slots} {S S' : Store} {d : D} (h0 : ds.length = 3) (h1 : dstart 8 ds = sl) (h2 : (sSeq (sIf (fOr (fNot (fTru (fIsi "tuple" (fVar 2)))) (fTst (fOp dNe (fCB (one dLen) (fCons (fVar 2) fNil)) (fC (.int 2))))) (sRet (fC (.bl false))) sNil)
  (sSeq (sAsg (fVar 2) (gTp 2 (gCs (gNm 3) (gCs (gNm 4) gNl))))
  (sSeq (sIf (fOr (fNot (fTru (fCall F__law_are_numbers (fCons (fVar 3) (fCons (fC (.int 0)) (fCons (fC (.int 1000000)) (fCons (fC (.int 2)) fNil))))))) (fOr (fNot (fTru (fCall F__law_are_numbers (fCons (fVar 4) (fCons (fC (.int 0)) (fCons (fC (.int 1000000)) (fCons (fC (.int 400)) fNil))))))) (fTst (fOp dEq (fCB (one dLen) (fCons (fVar 3) fNil)) (fC (.int 1)))))) (sRet (fC (.bl false))) sNil)
  (sSeq (sIf (fOr (fAnd (fTst (fOp dEq (fCB (one dLen) (fCons (fVar 3) fNil)) (fC (.int 2)))) (fTst (fOp dLe (fOp dSub (fOp dIx (fVar 3) (fC (.int 1))) (fOp dIx (fVar 3) (fC (.int 0)))) (fC (.int 4000))))) (fNot (fTru (fCall F__law_fits_far (fCons (fVar 3) (fCons (fVar 4) (fCons (fVar 0) fNil))))))) (sRet (fC (.bl false))) sNil)
  (sSeq (sIf (fOr (fTst (fOp dIsNot (fCall F_is_signal (fCons (fVar 4) fNil)) (fC (.bl true)))) (fTst (fOp dIsNot (fCall F_fits_signal (fCons (fVar 3) (fCons (fVar 4) (fCons (fVar 0) fNil)))) (fC (.bl true))))) (sRet (fC (.bl false))) sNil)
  (sSeq (sSet 5 (fIfE (fOr (fTst (fOp dEq (fVar 4) (fTup fNil))) (fTst (fOp dGt (fOp dIx (fVar 4) (fUn dNeg (fC (.int 1)))) (fC (.int 2500))))) (fLst fNil) (fLRg1 (fOp dAdd (fOp dAdd (fOp dIx (fVar 4) (fUn dNeg (fC (.int 1)))) (fVar 1)) (fC (.int 1))))))
  (sSeq (sSet 6 (fCall (F_settled_ticks K) (fCons (fVar 1) (fCons (fCB (one dTuple) (fCons (fLc (iSeq (fVar 5)) (gNm 7) fYes (fTup (fCons (fVar 7) (fCons (fCall F__law_is_up (fCons (fVar 4) (fCons (fVar 7) fNil))) fNil))) [7]) fNil)) fNil))))
  (sSeq (sIf (fAnd (fTst (fOp dNe (fVar 5) (fLst fNil))) (fOr (fNot (fTru (fIsi "tuple" (fVar 6)))) (fTst (fOp dNe (fCB (one dLen) (fCons (fVar 6) fNil)) (fCall F__law_turnings (fCons (fVar 4) (fCons (fVar 1) fNil))))))) (sRet (fC (.bl false))) sNil)
  (sRet (fOp dGt (fCall F__law_turnings (fCons (fVar 4) (fCons (fVar 1) fNil))) (fCB (one dLen) (fCons (fVar 3) fNil)))))))))))) sl S = some (.ret d, sl', S')) : (F__law_is_fooled K) ds S = some (d, S') := jRun' h0 h1 h2
theorem run_law {K : PySem.W.Frag} {ds : List D} {sl sl' : Slots} {S S' : Store} {d : D} (h0 : ds.length = 1) (h1 : dstart 11 ds = sl) (h2 : (sSeq (sSet 1 (fCall F__law_box (fCons (fVar 0) fNil)))
  (sSeq (sIf (fNot (fTru (fCall F__law_same (fCons (fC (.int 4000)) (fCons (fC (.int 4000)) fNil))))) (sRet (fC (.bl false))) sNil)
  (sSeq (sFor (iRng1 (fC (.int 4))) (gNm 2) (sSeq (sSet 3 (fOp dIx (fLst (fCons (fC (.int 8)) (fCons (fC (.int 60)) (fCons (fC (.int 1000)) (fCons (fC (.int 1000)) fNil))))) (fVar 2)))
  (sSeq (sPar3 4 5 6 (fOp dAdd (fC (.int 1)) (fCall F__law_draw (fCons (fVar 1) (fCons (fVar 3) fNil)))) (fCall F__law_draw (fCons (fVar 1) (fCons (fOp dAdd (fVar 3) (fC (.int 1))) fNil))) (fOp dAdd (fC (.int 1)) (fCall F__law_draw (fCons (fVar 1) (fCons (fVar 3) fNil)))))
  (sSeq (sSet 5 (fIfE (fTst (fOp dEq (fCall F__law_draw (fCons (fVar 1) (fCons (fC (.int 3)) fNil))) (fC (.int 0)))) (fC (.int 0)) (fVar 5)))
  (sSeq (sSet 7 (fOp dIx (fLst (fCons (fOp dSub (fVar 5) (fC (.int 1))) (fCons (fVar 5) (fCons (fOp dSub (fOp dFdiv (fVar 4) (fC (.int 2))) (fC (.int 1))) (fCons (fOp dFdiv (fVar 4) (fC (.int 2))) (fCons (fOp dAdd (fC (.int 1)) (fCall F__law_draw (fCons (fVar 1) (fCons (fVar 3) fNil)))) fNil)))))) (fCall F__law_draw (fCons (fVar 1) (fCons (fC (.int 5)) fNil)))))
  (sSeq (sPar 8 9 (fCB (two dMax2) (fCons (fC (.int 1)) (fCons (fVar 7) fNil))) (fTup (fCons (fVar 4) (fCons (fVar 5) (fCons (fVar 6) fNil)))))
  (sSeq (sSet 10 (fCall F_fooling_signal (fCons (fVar 9) (fCons (fVar 8) fNil))))
  (sIf (fAnd (fTst (fOp dGe (fVar 8) (fVar 5))) (fTst (fOp dGt (fOp dAdd (fOp dMul (fC (.int 2)) (fVar 8)) (fC (.int 2))) (fVar 4)))) (sIf (fTst (fOp dIsNot (fVar 10) (fC .non))) (sRet (fC (.bl false))) sNil) (sIf (fNot (fTru (fCall (F__law_is_fooled K) (fCons (fVar 9) (fCons (fVar 8) (fCons (fVar 10) fNil)))))) (sRet (fC (.bl false))) sNil)))))))))
  (sRet (fC (.bl true)))))) sl S = some (.ret d, sl', S')) : (F_law K) ds S = some (d, S') := jRun' h0 h1 h2
/-! ### scopes -/
theorem sc__law_box : FnScope ["script"] ["script"] (defScope s__law_box) := ⟨rfl, rfl, rfl, by decide +kernel, rfl, by decide +kernel, by decide +kernel⟩
theorem sc__law_same : FnScope ["a", "b", "k"] ["a", "b"] (defScope s__law_same) := ⟨rfl, rfl, rfl, by decide +kernel, rfl, by decide +kernel, by decide +kernel⟩
theorem sc__law_load : FnScope ["box", "cells", "cell", "size", "first", "second"] ["box"] (defScope s__law_load) := ⟨rfl, rfl, rfl, by decide +kernel, rfl, by decide +kernel, by decide +kernel⟩
theorem sc__law_draw : FnScope ["box", "many", "digit"] ["box", "many"] (defScope s__law_draw) := ⟨rfl, rfl, rfl, by decide +kernel, rfl, by decide +kernel, by decide +kernel⟩
theorem sc_does_turn_once : FnScope ["bounds", "settle", "bounce", "noise", "_"] ["bounds", "settle"] (defScope s_does_turn_once) := ⟨rfl, rfl, rfl, by decide +kernel, rfl, by decide +kernel, by decide +kernel⟩
theorem sc_fooling_signal : FnScope ["bounds", "settle", "_", "noise", "quiet", "first", "last"] ["bounds", "settle"] (defScope s_fooling_signal) := ⟨rfl, rfl, rfl, by decide +kernel, rfl, by decide +kernel, by decide +kernel⟩
theorem sc__law_is_number : FnScope ["value", "least", "most"] ["value", "least", "most"] (defScope s__law_is_number) := ⟨rfl, rfl, rfl, by decide +kernel, rfl, by decide +kernel, by decide +kernel⟩
theorem sc__law_are_rising : FnScope ["value", "k"] ["value"] (defScope s__law_are_rising) := ⟨rfl, rfl, rfl, by decide +kernel, rfl, by decide +kernel, by decide +kernel⟩
theorem sc__law_are_numbers : FnScope ["value", "least", "most", "many", "one"] ["value", "least", "most", "many"] (defScope s__law_are_numbers) := ⟨rfl, rfl, rfl, by decide +kernel, rfl, by decide +kernel, by decide +kernel⟩
theorem sc__law_is_up : FnScope ["flips", "tick", "flip"] ["flips", "tick"] (defScope s__law_is_up) := ⟨rfl, rfl, rfl, by decide +kernel, rfl, by decide +kernel, by decide +kernel⟩
theorem sc__law_marks : FnScope ["ticks", "signal", "bounce", "low", "high", "found", "tick", "near", "true"] ["ticks", "signal", "bounce", "low", "high"] (defScope s__law_marks) := ⟨rfl, rfl, rfl, by decide +kernel, rfl, by decide +kernel, by decide +kernel⟩
theorem sc__law_spans : FnScope ["ticks", "signal", "bounce", "cuts", "found", "k", "mark", "behind", "tick"] ["ticks", "signal", "bounce"] (defScope s__law_spans) := ⟨rfl, rfl, rfl, by decide +kernel, rfl, by decide +kernel, by decide +kernel⟩
theorem sc__law_fits_far : FnScope ["ticks", "signal", "bounds", "rows", "k", "first", "behind", "mark"] ["ticks", "signal", "bounds"] (defScope s__law_fits_far) := ⟨rfl, rfl, rfl, by decide +kernel, rfl, by decide +kernel, by decide +kernel⟩
theorem sc_is_closed_at : FnScope ["signal", "tick", "flip"] ["signal", "tick"] (defScope s_is_closed_at) := ⟨rfl, rfl, rfl, by decide +kernel, rfl, by decide +kernel, by decide +kernel⟩
theorem sc_wrong_spans : FnScope ["ticks", "signal", "found", "first", "tick", "is_wrong"] ["ticks", "signal"] (defScope s_wrong_spans) := ⟨rfl, rfl, rfl, by decide +kernel, rfl, by decide +kernel, by decide +kernel⟩
theorem sc_bounce_spans : FnScope ["ticks", "bounce", "found", "tick"] ["ticks", "bounce"] (defScope s_bounce_spans) := ⟨rfl, rfl, rfl, by decide +kernel, rfl, by decide +kernel, by decide +kernel⟩
theorem sc_without_span : FnScope ["span", "bounce", "first", "behind", "low", "high", "found", "one"] ["span", "bounce"] (defScope s_without_span) := ⟨rfl, rfl, rfl, by decide +kernel, rfl, by decide +kernel, by decide +kernel⟩
theorem sc_bursts_of : FnScope ["ticks", "signal", "bounce", "left", "span", "one", "part"] ["ticks", "signal", "bounce"] (defScope s_bursts_of) := ⟨rfl, rfl, rfl, by decide +kernel, rfl, by decide +kernel, by decide +kernel⟩
theorem sc_is_quiet_about : FnScope ["burst", "others", "quiet", "first", "behind", "low", "high"] ["burst", "others", "quiet"] (defScope s_is_quiet_about) := ⟨rfl, rfl, rfl, by decide +kernel, rfl, by decide +kernel, by decide +kernel⟩
theorem sc_fits_signal : FnScope ["ticks", "signal", "bounds", "bounce", "noise", "quiet", "bursts", "spans", "burst", "others", "first", "behind", "other"] ["ticks", "signal", "bounds"] (defScope s_fits_signal) := ⟨rfl, rfl, rfl, by decide +kernel, rfl, by decide +kernel, by decide +kernel⟩
theorem sc_is_number : FnScope ["value", "least", "most"] ["value", "least", "most"] (defScope s_is_number) := ⟨rfl, rfl, rfl, by decide +kernel, rfl, by decide +kernel, by decide +kernel⟩
theorem sc_is_row : FnScope ["value", "least", "most"] ["value", "least", "most"] (defScope s_is_row) := ⟨rfl, rfl, rfl, by decide +kernel, rfl, by decide +kernel, by decide +kernel⟩
theorem sc_are_rising : FnScope ["parts", "one", "other"] ["parts"] (defScope s_are_rising) := ⟨rfl, rfl, rfl, by decide +kernel, rfl, by decide +kernel, by decide +kernel⟩
theorem sc_is_signal : FnScope ["value", "tick"] ["value"] (defScope s_is_signal) := ⟨rfl, rfl, rfl, by decide +kernel, rfl, by decide +kernel, by decide +kernel⟩
theorem sc_Settler_init : FnScope ["self", "settle"] ["self", "settle"] (defScope s_Settler_init) := ⟨rfl, rfl, rfl, by decide +kernel, rfl, by decide +kernel, by decide +kernel⟩
theorem sc_Settler_hear : FnScope ["self", "tick", "is_closed"] ["self", "tick", "is_closed"] (defScope s_Settler_hear) := ⟨rfl, rfl, rfl, by decide +kernel, rfl, by decide +kernel, by decide +kernel⟩
theorem sc_settled_ticks : FnScope ["settle", "rows", "settler", "tick", "is_closed"] ["settle", "rows"] (defScope s_settled_ticks) := ⟨rfl, rfl, rfl, by decide +kernel, rfl, by decide +kernel, by decide +kernel⟩
theorem sc__law_turnings : FnScope ["signal", "settle", "many", "is_down", "cuts", "k", "is_long"] ["signal", "settle"] (defScope s__law_turnings) := ⟨rfl, rfl, rfl, by decide +kernel, rfl, by decide +kernel, by decide +kernel⟩
theorem sc__law_is_fooled : FnScope ["bounds", "settle", "told", "ticks", "signal", "rows", "turned", "tick"] ["bounds", "settle", "told"] (defScope s__law_is_fooled) := ⟨rfl, rfl, rfl, by decide +kernel, rfl, by decide +kernel, by decide +kernel⟩
theorem sc_law : FnScope ["script", "box", "turn", "most", "bounce", "noise", "quiet", "near", "settle", "bounds", "told"] ["script"] (defScope s_law) := ⟨rfl, rfl, rfl, by decide +kernel, rfl, by decide +kernel, by decide +kernel⟩
/-! ### the facts -/
def tfL : List He.Defn := [("fits_signal", none), ("is_signal", none), ("are_rising", none)]
def TT (K : PySem.W.Frag) : List Addr := tfL.map fun p => (He.cT K p).2
theorem TT_mem {K : PySem.W.Frag} {p : He.Defn} (h : p ∈ tfL) : (He.cT K p).2 ∈ TT K := List.mem_map_of_mem h
theorem tm_fits_signal : (("fits_signal", none) : He.Defn) ∈ tfL := by decide
theorem tm_is_signal : (("is_signal", none) : He.Defn) ∈ tfL := by decide
theorem tm_are_rising : (("are_rising", none) : He.Defn) ∈ tfL := by decide
structure Fx (K : PySem.W.Frag) (mg : Str → Option Value) (base : Heap) : Prop where
  z_all : mg "all" = none
  z_any : mg "any" = none
  z_bool : mg "bool" = none
  z_int : mg "int" = none
  z_isinstance : mg "isinstance" = none
  z_len : mg "len" = none
  z_list : mg "list" = none
  z_max : mg "max" = none
  z_range : mg "range" = none
  z_set : mg "set" = none
  z_sorted : mg "sorted" = none
  z_str : mg "str" = none
  z_tuple : mg "tuple" = none
  z_zip : mg "zip" = none
  g__law_box : mg "_law_box" = some (.ref (He.fAd K ("_law_box", none)))
  g__law_same : mg "_law_same" = some (.ref (He.fAd K ("_law_same", none)))
  g__law_load : mg "_law_load" = some (.ref (He.fAd K ("_law_load", none)))
  g__law_draw : mg "_law_draw" = some (.ref (He.fAd K ("_law_draw", none)))
  g_does_turn_once : mg "does_turn_once" = some (.ref (He.fAd K ("does_turn_once", none)))
  g_fooling_signal : mg "fooling_signal" = some (.ref (He.fAd K ("fooling_signal", none)))
  g__law_is_number : mg "_law_is_number" = some (.ref (He.fAd K ("_law_is_number", none)))
  g__law_are_rising : mg "_law_are_rising" = some (.ref (He.fAd K ("_law_are_rising", none)))
  g__law_are_numbers : mg "_law_are_numbers" = some (.ref (He.fAd K ("_law_are_numbers", none)))
  g__law_is_up : mg "_law_is_up" = some (.ref (He.fAd K ("_law_is_up", none)))
  g__law_marks : mg "_law_marks" = some (.ref (He.fAd K ("_law_marks", none)))
  g__law_spans : mg "_law_spans" = some (.ref (He.fAd K ("_law_spans", none)))
  g__law_fits_far : mg "_law_fits_far" = some (.ref (He.fAd K ("_law_fits_far", none)))
  g_is_closed_at : mg "is_closed_at" = some (.ref (He.fAd K ("is_closed_at", none)))
  g_wrong_spans : mg "wrong_spans" = some (.ref (He.fAd K ("wrong_spans", none)))
  g_bounce_spans : mg "bounce_spans" = some (.ref (He.fAd K ("bounce_spans", none)))
  g_without_span : mg "without_span" = some (.ref (He.fAd K ("without_span", none)))
  g_bursts_of : mg "bursts_of" = some (.ref (He.fAd K ("bursts_of", none)))
  g_is_quiet_about : mg "is_quiet_about" = some (.ref (He.fAd K ("is_quiet_about", none)))
  g_fits_signal : mg "fits_signal" = some (.ref (He.fAd K ("fits_signal", none)))
  g_is_number : mg "is_number" = some (.ref (He.fAd K ("is_number", none)))
  g_is_row : mg "is_row" = some (.ref (He.fAd K ("is_row", none)))
  g_are_rising : mg "are_rising" = some (.ref (He.fAd K ("are_rising", none)))
  g_is_signal : mg "is_signal" = some (.ref (He.fAd K ("is_signal", none)))
  g_settled_ticks : mg "settled_ticks" = some (.ref (He.fAd K ("settled_ticks", none)))
  g__law_turnings : mg "_law_turnings" = some (.ref (He.fAd K ("_law_turnings", none)))
  g__law_is_fooled : mg "_law_is_fooled" = some (.ref (He.fAd K ("_law_is_fooled", none)))
  g_law : mg "law" = some (.ref (He.fAd K ("law", none)))
  g_Settler : mg "Settler" = some (.ref (He.ga K "Settler"))
  cl_Settler : Cls K (He.ga K "Settler")
  na_Settler__settle : NoAttr K (He.ga K "Settler") "_settle"
  na_Settler__is_down : NoAttr K (He.ga K "Settler") "_is_down"
  na_Settler__first : NoAttr K (He.ga K "Settler") "_first"
  mk_Settler : Mk K (He.ga K "Settler") (He.fAd K ("Settler", some "__init__"))
  me_Settler_hear : Meth K (He.ga K "Settler") "hear" (He.fAd K ("Settler", some "hear"))
  i_LAST_DELAY : ∃ t, mg "LAST_DELAY" = some (.int 4000 t)
  i_LAST_TICK : ∃ t, mg "LAST_TICK" = some (.int 1000000 t)
  i_MOST_FLIPS : ∃ t, mg "MOST_FLIPS" = some (.int 400 t)
  d__law_box : ∃ fd, FunC K "_law_box" "_law_box" s__law_box (He.fAd K ("_law_box", none)) fd (He.codeOf K ("_law_box", none))
  d__law_same : ∃ fd, FunC K "_law_same" "_law_same" s__law_same (He.fAd K ("_law_same", none)) fd (He.codeOf K ("_law_same", none))
  d__law_load : ∃ fd, FunC K "_law_load" "_law_load" s__law_load (He.fAd K ("_law_load", none)) fd (He.codeOf K ("_law_load", none))
  d__law_draw : ∃ fd, FunC K "_law_draw" "_law_draw" s__law_draw (He.fAd K ("_law_draw", none)) fd (He.codeOf K ("_law_draw", none))
  d_does_turn_once : ∃ fd, FunC K "does_turn_once" "does_turn_once" s_does_turn_once (He.fAd K ("does_turn_once", none)) fd (He.codeOf K ("does_turn_once", none))
  d_fooling_signal : ∃ fd, FunC K "fooling_signal" "fooling_signal" s_fooling_signal (He.fAd K ("fooling_signal", none)) fd (He.codeOf K ("fooling_signal", none))
  d__law_is_number : ∃ fd, FunC K "_law_is_number" "_law_is_number" s__law_is_number (He.fAd K ("_law_is_number", none)) fd (He.codeOf K ("_law_is_number", none))
  d__law_are_rising : ∃ fd, FunC K "_law_are_rising" "_law_are_rising" s__law_are_rising (He.fAd K ("_law_are_rising", none)) fd (He.codeOf K ("_law_are_rising", none))
  d__law_are_numbers : ∃ fd, FunC K "_law_are_numbers" "_law_are_numbers" s__law_are_numbers (He.fAd K ("_law_are_numbers", none)) fd (He.codeOf K ("_law_are_numbers", none))
  d__law_is_up : ∃ fd, FunC K "_law_is_up" "_law_is_up" s__law_is_up (He.fAd K ("_law_is_up", none)) fd (He.codeOf K ("_law_is_up", none))
  d__law_marks : ∃ fd, FunC K "_law_marks" "_law_marks" s__law_marks (He.fAd K ("_law_marks", none)) fd (He.codeOf K ("_law_marks", none))
  d__law_spans : ∃ fd, FunC K "_law_spans" "_law_spans" s__law_spans (He.fAd K ("_law_spans", none)) fd (He.codeOf K ("_law_spans", none))
  d__law_fits_far : ∃ fd, FunC K "_law_fits_far" "_law_fits_far" s__law_fits_far (He.fAd K ("_law_fits_far", none)) fd (He.codeOf K ("_law_fits_far", none))
  d_is_closed_at : ∃ fd, FunC K "is_closed_at" "is_closed_at" s_is_closed_at (He.fAd K ("is_closed_at", none)) fd (He.codeOf K ("is_closed_at", none))
  d_wrong_spans : ∃ fd, FunC K "wrong_spans" "wrong_spans" s_wrong_spans (He.fAd K ("wrong_spans", none)) fd (He.codeOf K ("wrong_spans", none))
  d_bounce_spans : ∃ fd, FunC K "bounce_spans" "bounce_spans" s_bounce_spans (He.fAd K ("bounce_spans", none)) fd (He.codeOf K ("bounce_spans", none))
  d_without_span : ∃ fd, FunC K "without_span" "without_span" s_without_span (He.fAd K ("without_span", none)) fd (He.codeOf K ("without_span", none))
  d_bursts_of : ∃ fd, FunC K "bursts_of" "bursts_of" s_bursts_of (He.fAd K ("bursts_of", none)) fd (He.codeOf K ("bursts_of", none))
  d_is_quiet_about : ∃ fd, FunC K "is_quiet_about" "is_quiet_about" s_is_quiet_about (He.fAd K ("is_quiet_about", none)) fd (He.codeOf K ("is_quiet_about", none))
  d_fits_signal : ∃ fd, FunC K "fits_signal" "fits_signal" s_fits_signal (He.fAd K ("fits_signal", none)) fd (He.codeOf K ("fits_signal", none))
  d_is_number : ∃ fd, FunC K "is_number" "is_number" s_is_number (He.fAd K ("is_number", none)) fd (He.codeOf K ("is_number", none))
  d_is_row : ∃ fd, FunC K "is_row" "is_row" s_is_row (He.fAd K ("is_row", none)) fd (He.codeOf K ("is_row", none))
  d_are_rising : ∃ fd, FunC K "are_rising" "are_rising" s_are_rising (He.fAd K ("are_rising", none)) fd (He.codeOf K ("are_rising", none))
  d_is_signal : ∃ fd, FunC K "is_signal" "is_signal" s_is_signal (He.fAd K ("is_signal", none)) fd (He.codeOf K ("is_signal", none))
  d_Settler_init : ∃ fd, FunC K "__init__" "Settler.__init__" s_Settler_init (He.fAd K ("Settler", some "__init__")) fd (He.codeOf K ("Settler", some "__init__"))
  d_Settler_hear : ∃ fd, FunC K "hear" "Settler.hear" s_Settler_hear (He.fAd K ("Settler", some "hear")) fd (He.codeOf K ("Settler", some "hear"))
  d_settled_ticks : ∃ fd, FunC K "settled_ticks" "settled_ticks" s_settled_ticks (He.fAd K ("settled_ticks", none)) fd (He.codeOf K ("settled_ticks", none))
  d__law_turnings : ∃ fd, FunC K "_law_turnings" "_law_turnings" s__law_turnings (He.fAd K ("_law_turnings", none)) fd (He.codeOf K ("_law_turnings", none))
  d__law_is_fooled : ∃ fd, FunC K "_law_is_fooled" "_law_is_fooled" s__law_is_fooled (He.fAd K ("_law_is_fooled", none)) fd (He.codeOf K ("_law_is_fooled", none))
  d_law : ∃ fd, FunC K "law" "law" s_law (He.fAd K ("law", none)) fd (He.codeOf K ("law", none))
  tb : ∀ p, p ∈ tfL → GxR.TabB base mg (He.codeOf K p) (He.cT K p).2
/-! ### the walks -/
section
variable {P : Program} {w : World} {K : PySem.W.Frag} {mg : Str → Option Value} {base : Heap}
theorem ok__law_box (E : Fx K mg base) : OkD P w K mg base (TT K) 1 ("_law_box", none) ["script"] F__law_box := by
  obtain ⟨fd, F⟩ := E.d__law_box
  refine ⟨fd, (fn_okC F sc__law_box fun A outer s H E0 hr => ?_), F.fun.binds (ps := ["script"]) fun _ _ _ _ _ _ us hl => match us, hl with | [_], _ => rfl, F.kp⟩
  exact (dss_one (ds_ret (de_lstM (da_cons (de_listM rfl E.z_list (da_cons (de_sl (dv 0) do_no (do_some de_int)) da_nil)) (da_cons de_int (da_cons (xAdd de_int (de_cb ok_len call_len rfl E.z_len PySem.boot_len (da_cons (dv 0) da_nil))) da_nil))))))
theorem ok__law_same (E : Fx K mg base) : OkD P w K mg base (TT K) 1 ("_law_same", none) ["a", "b"] F__law_same := by
  obtain ⟨fd, F⟩ := E.d__law_same
  refine ⟨fd, (fn_okC F sc__law_same fun A outer s H E0 hr => ?_), F.fun.binds (ps := ["a", "b"]) fun _ _ _ _ _ _ us hl => match us, hl with | [_, _], _ => rfl, F.kp⟩
  exact (dss_cons (ds_if (dt_w (dw_or (dt_w (dw_and (dt_tru (de_isi rfl E.z_isinstance (dv 0) rfl E.z_tuple (by decide +kernel))) (dw_and1 (dt_tru (de_isi rfl E.z_isinstance (dv 1) rfl E.z_tuple (by decide +kernel)))))) (dw_or1 (dt_w (dw_and (dt_tru (de_isi rfl E.z_isinstance (dv 0) rfl E.z_list (by decide +kernel))) (dw_and1 (dt_tru (de_isi rfl E.z_isinstance (dv 1) rfl E.z_list (by decide +kernel))))))))) dss_bad dss_nil)
    (dss_cons (ds_if (dt_w (dw_or (dt_tru (de_isi rfl E.z_isinstance (dv 0) rfl E.z_bool (by decide +kernel))) (dw_or1 (dt_tru (de_isi rfl E.z_isinstance (dv 1) rfl E.z_bool (by decide +kernel)))))) (dss_one (ds_ret (de_and (de_isi rfl E.z_isinstance (dv 0) rfl E.z_bool (by decide +kernel)) (de_and (de_isi rfl E.z_isinstance (dv 1) rfl E.z_bool (by decide +kernel)) (de_and1 (xEq hr (dv 0) (dv 1))))))) dss_nil)
    (dss_cons (ds_if (dt_w (dw_or (dt_w (dw_and (dt_tru (de_isi rfl E.z_isinstance (dv 0) rfl E.z_int (by decide +kernel))) (dw_and1 (dt_tru (de_isi rfl E.z_isinstance (dv 1) rfl E.z_int (by decide +kernel)))))) (dw_or1 (dt_w (dw_and (dt_tru (de_isi rfl E.z_isinstance (dv 0) rfl E.z_str (by decide +kernel))) (dw_and1 (dt_tru (de_isi rfl E.z_isinstance (dv 1) rfl E.z_str (by decide +kernel))))))))) (dss_one (ds_ret (xEq hr (dv 0) (dv 1)))) dss_nil)
    (dss_one (ds_ret (de_and (xIs (dv 0) de_non) (de_and1 (xIs (dv 1) de_non))))))))
theorem ok__law_load (E : Fx K mg base) : OkD P w K mg base (TT K) 1 ("_law_load", none) ["box"] F__law_load := by
  obtain ⟨fd, F⟩ := E.d__law_load
  refine ⟨fd, (fn_okC F sc__law_load fun A outer s H E0 hr => ?_), F.fun.binds (ps := ["box"]) fun _ _ _ _ _ _ us hl => match us, hl with | [_], _ => rfl, F.kp⟩
  exact (dss_cons (ds_set (i := 1) sc__law_load.nd rfl (by first | exact .inl rfl | exact .inr rfl) (de_ix (dv 0) de_int))
    (dss_cons (ds_if (yGt (de_cb ok_len call_len rfl E.z_len PySem.boot_len (da_cons (dv 1) da_nil)) de_int) (dss_cons (ds_set (i := 2) sc__law_load.nd rfl (by first | exact .inl rfl | exact .inr rfl) (de_cty ok_int call_int1 rfl E.z_int PyProof.Rows.boot_int (da_cons (de_popAt (dv 1) (da_cons de_int da_nil)) da_nil)))
    (dss_cons (ds_set (i := 3) sc__law_load.nd rfl (by first | exact .inl rfl | exact .inr rfl) (de_if (yGe (dv 2) de_int) (xMul de_int (dv 2)) (xSub (xMul (xNeg de_int) (dv 2)) de_int)))
    (dss_cons (ds_if (yGe (dv 3) de_int) (dss_one (ds_ret (dv 3))) dss_nil)
    (dss_one (ds_setIx (xMod (de_cty ok_int call_int1 rfl E.z_int PyProof.Rows.boot_int (da_cons (xAdd (xAdd (xMul (de_ix (dv 0) de_int) de_int) (xMul (dv 3) de_int)) de_int) da_nil)) de_int) (dv 0) de_int))))) dss_nil)
    (dss_cons (ds_set (i := 4) sc__law_load.nd rfl (by first | exact .inl rfl | exact .inr rfl) (xMod (de_cty ok_int call_int1 rfl E.z_int PyProof.Rows.boot_int (da_cons (xAdd (xMul (de_ix (dv 0) de_int) de_int) de_int) da_nil)) de_int))
    (dss_cons (ds_set (i := 5) sc__law_load.nd rfl (by first | exact .inl rfl | exact .inr rfl) (xMod (de_cty ok_int call_int1 rfl E.z_int PyProof.Rows.boot_int (da_cons (xAdd (xMul (dv 4) de_int) de_int) da_nil)) de_int))
    (dss_cons (ds_setIx (xMod (de_cty ok_int call_int1 rfl E.z_int PyProof.Rows.boot_int (da_cons (xAdd (xMul (dv 5) de_int) de_int) da_nil)) de_int) (dv 0) de_int)
    (dss_one (ds_ret (xAdd (xAdd (xMul (dv 4) de_int) (xMul (dv 5) de_int)) (de_ix (dv 0) de_int)))))))))
theorem ok__law_draw (E : Fx K mg base) : OkD P w K mg base (TT K) 2 ("_law_draw", none) ["box", "many"] F__law_draw := by
  obtain ⟨fd, F⟩ := E.d__law_draw
  obtain ⟨fd__law_load, G__law_load, B__law_load, K__law_load⟩ := ok__law_load (P := P) (w := w) E
  refine ⟨fd, (fn_okC F sc__law_draw fun A outer s H E0 hr => ?_), F.fun.binds (ps := ["box", "many"]) fun _ _ _ _ _ _ us hl => match us, hl with | [_, _], _ => rfl, F.kp⟩
  exact (dss_cons (ds_if (yLt hr (de_ix (dv 0) de_int) (dv 1)) (dss_one (ds_setIx (de_call G__law_load (hr.mono (by decide : 1 ≤ 1)) rfl E.g__law_load K__law_load B__law_load (da_cons (dv 0) da_nil)) (dv 0) de_int)) dss_nil)
    (dss_cons (ds_set (i := 2) sc__law_draw.nd rfl (by first | exact .inl rfl | exact .inr rfl) (xMod (de_cty ok_int call_int1 rfl E.z_int PyProof.Rows.boot_int (da_cons (de_ix (dv 0) de_int) da_nil)) (dv 1)))
    (dss_cons (ds_setIx (xDiv (de_ix (dv 0) de_int) (dv 1)) (dv 0) de_int)
    (dss_one (ds_ret (dv 2))))))
theorem ok_does_turn_once (E : Fx K mg base) : OkD P w K mg base (TT K) 1 ("does_turn_once", none) ["bounds", "settle"] F_does_turn_once := by
  obtain ⟨fd, F⟩ := E.d_does_turn_once
  refine ⟨fd, (fn_okC F sc_does_turn_once fun A outer s H E0 hr => ?_), F.fun.binds (ps := ["bounds", "settle"]) fun _ _ _ _ _ _ us hl => match us, hl with | [_, _], _ => rfl, F.kp⟩
  exact (dss_cons (ds_asg (dv 0) (dg_tup rfl (dgs_cons (dg_of (pg_name (i := 2) sc_does_turn_once.nd rfl (by first | exact .inl rfl | exact .inr rfl))) (dgs_cons (dg_of (pg_name (i := 3) sc_does_turn_once.nd rfl (by first | exact .inl rfl | exact .inr rfl))) (dgs_cons (dg_of (pg_name (i := 4) sc_does_turn_once.nd rfl (by first | exact .inl rfl | exact .inr rfl))) dgs_nil)))))
    (dss_one (ds_ret (de_and (xGe (dv 1) (dv 3)) (de_and1 (xGt (xAdd (xMul de_int (dv 1)) de_int) (dv 2)))))))
theorem ok_fooling_signal (E : Fx K mg base) : OkD P w K mg base (TT K) 2 ("fooling_signal", none) ["bounds", "settle"] F_fooling_signal := by
  obtain ⟨fd, F⟩ := E.d_fooling_signal
  obtain ⟨fd_does_turn_once, G_does_turn_once, B_does_turn_once, K_does_turn_once⟩ := ok_does_turn_once (P := P) (w := w) E
  obtain ⟨t_LAST_DELAY, c_LAST_DELAY⟩ := E.i_LAST_DELAY
  refine ⟨fd, (fn_okC F sc_fooling_signal fun A outer s H E0 hr => ?_), F.fun.binds (ps := ["bounds", "settle"]) fun _ _ _ _ _ _ us hl => match us, hl with | [_, _], _ => rfl, F.kp⟩
  exact (dss_cons (ds_if (dt_tru (de_call G_does_turn_once (hr.mono (by decide : 1 ≤ 1)) rfl E.g_does_turn_once K_does_turn_once B_does_turn_once (da_cons (dv 0) (da_cons (dv 1) da_nil)))) (dss_one (ds_ret de_non)) dss_nil)
    (dss_cons (ds_asg (dv 0) (dg_tup rfl (dgs_cons (dg_of (pg_name (i := 2) sc_fooling_signal.nd rfl (by first | exact .inl rfl | exact .inr rfl))) (dgs_cons (dg_of (pg_name (i := 3) sc_fooling_signal.nd rfl (by first | exact .inl rfl | exact .inr rfl))) (dgs_cons (dg_of (pg_name (i := 4) sc_fooling_signal.nd rfl (by first | exact .inl rfl | exact .inr rfl))) dgs_nil)))))
    (dss_cons (ds_set (i := 5) sc_fooling_signal.nd rfl (by first | exact .inl rfl | exact .inr rfl) (xAdd (dv 4) de_int))
    (dss_cons (ds_if (yLt hr (dv 1) (dv 3)) (dss_one (ds_ret (de_tup (da_cons (de_tup da_nil) (da_cons (de_tup (da_cons (dv 5) (da_cons (xAdd (xAdd (dv 5) (dv 1)) de_int) da_nil))) da_nil))))) dss_nil)
    (dss_cons (ds_set (i := 6) sc_fooling_signal.nd rfl (by first | exact .inl rfl | exact .inr rfl) (xAdd (dv 5) (xMul de_int (de_gint rfl c_LAST_DELAY))))
    (dss_one (ds_ret (de_tup (da_cons (de_tup (da_cons (dv 5) (da_cons (dv 6) da_nil))) (da_cons (de_tup (da_cons (dv 5) (da_cons (xAdd (xAdd (dv 5) (dv 1)) de_int) (da_cons (xAdd (xAdd (dv 5) (xMul de_int (dv 1))) de_int) (da_cons (dv 6) da_nil))))) da_nil))))))))))
theorem ok__law_is_number (E : Fx K mg base) : OkD P w K mg base (TT K) 1 ("_law_is_number", none) ["value", "least", "most"] F__law_is_number := by
  obtain ⟨fd, F⟩ := E.d__law_is_number
  refine ⟨fd, (fn_okC F sc__law_is_number fun A outer s H E0 hr => ?_), F.fun.binds (ps := ["value", "least", "most"]) fun _ _ _ _ _ _ us hl => match us, hl with | [_, _, _], _ => rfl, F.kp⟩
  exact (dss_one (ds_ret (de_and (de_isi rfl E.z_isinstance (dv 0) rfl E.z_int (by decide +kernel)) (de_and (de_not (de_isi rfl E.z_isinstance (dv 0) rfl E.z_bool (by decide +kernel))) (de_and1 (de_ch (op_le) (op_le) (ok_cmpI _) (ok_cmpI _) (dv 1) (dv 0) (dv 2)))))))
theorem ok__law_are_rising (E : Fx K mg base) : OkD P w K mg base (TT K) 1 ("_law_are_rising", none) ["value"] F__law_are_rising := by
  obtain ⟨fd, F⟩ := E.d__law_are_rising
  refine ⟨fd, (fn_okC F sc__law_are_rising fun A outer s H E0 hr => ?_), F.fun.binds (ps := ["value"]) fun _ _ _ _ _ _ us hl => match us, hl with | [_], _ => rfl, F.kp⟩
  exact (dss_one (ds_ret (de_cb ok_all (cr_all rfl) rfl E.z_all (by decide +kernel) (da_cons (de_lc rfl sc__law_are_rising.nd (di_rng1 rfl E.z_range (xSub (de_cb ok_len call_len rfl E.z_len PySem.boot_len (da_cons (dv 0) da_nil)) de_int)) (own := [("k", 1)]) (blkOk_by rfl) (by decide) (fun _ _ _ _ _ => (dg_of (pg_name (i := 1) sc__law_are_rising.nd rfl (by first | exact .inl rfl | exact .inr rfl)))) (fun _ _ _ _ _ => dts_nil) (fun _ _ _ _ _ => (xLt hr (de_ix (dv 0) (dv 1)) (de_ix (dv 0) (xAdd (dv 1) de_int))))) da_nil))))
theorem ok__law_are_numbers (E : Fx K mg base) : OkD P w K mg base (TT K) 2 ("_law_are_numbers", none) ["value", "least", "most", "many"] F__law_are_numbers := by
  obtain ⟨fd, F⟩ := E.d__law_are_numbers
  obtain ⟨fd__law_is_number, G__law_is_number, B__law_is_number, K__law_is_number⟩ := ok__law_is_number (P := P) (w := w) E
  obtain ⟨fd__law_are_rising, G__law_are_rising, B__law_are_rising, K__law_are_rising⟩ := ok__law_are_rising (P := P) (w := w) E
  refine ⟨fd, (fn_okC F sc__law_are_numbers fun A outer s H E0 hr => ?_), F.fun.binds (ps := ["value", "least", "most", "many"]) fun _ _ _ _ _ _ us hl => match us, hl with | [_, _, _, _], _ => rfl, F.kp⟩
  exact (dss_cons (ds_if (dt_w (dw_or (dt_not (dt_tru (de_isi rfl E.z_isinstance (dv 0) rfl E.z_tuple (by decide +kernel)))) (dw_or1 (yGt (de_cb ok_len call_len rfl E.z_len PySem.boot_len (da_cons (dv 0) da_nil)) (dv 3))))) (dss_one (ds_ret de_bl)) dss_nil)
    (dss_one (ds_ret (de_and (de_cb ok_all (cr_all rfl) rfl E.z_all (by decide +kernel) (da_cons (de_lc rfl sc__law_are_numbers.nd (di_seq (dv 0)) (own := [("one", 4)]) (blkOk_by rfl) (by decide) (fun _ _ _ _ _ => (dg_of (pg_name (i := 4) sc__law_are_numbers.nd rfl (by first | exact .inl rfl | exact .inr rfl)))) (fun _ _ _ _ _ => dts_nil) (fun _ _ _ _ _ => (de_call G__law_is_number (hr.mono (by decide : 1 ≤ 1)) rfl E.g__law_is_number K__law_is_number B__law_is_number (da_cons (dv 4) (da_cons (dv 1) (da_cons (dv 2) da_nil)))))) da_nil)) (de_and1 (de_call G__law_are_rising (hr.mono (by decide : 1 ≤ 1)) rfl E.g__law_are_rising K__law_are_rising B__law_are_rising (da_cons (dv 0) da_nil)))))))
theorem ok__law_is_up (E : Fx K mg base) : OkD P w K mg base (TT K) 1 ("_law_is_up", none) ["flips", "tick"] F__law_is_up := by
  obtain ⟨fd, F⟩ := E.d__law_is_up
  refine ⟨fd, (fn_okC F sc__law_is_up fun A outer s H E0 hr => ?_), F.fun.binds (ps := ["flips", "tick"]) fun _ _ _ _ _ _ us hl => match us, hl with | [_, _], _ => rfl, F.kp⟩
  exact (dss_one (ds_ret (xEq hr (xMod (de_cb ok_len call_len rfl E.z_len PySem.boot_len (da_cons (de_lc rfl sc__law_is_up.nd (di_seq (dv 0)) (own := [("flip", 2)]) (blkOk_by rfl) (by decide) (fun _ _ _ _ _ => (dg_of (pg_name (i := 2) sc__law_is_up.nd rfl (by first | exact .inl rfl | exact .inr rfl)))) (fun _ _ _ _ _ => (dts_one (yLe (dv 2) (dv 1)))) (fun _ _ _ _ _ => (dv 2))) da_nil)) de_int) de_int)))
theorem ok__law_marks (E : Fx K mg base) : OkD P w K mg base (TT K) 2 ("_law_marks", none) ["ticks", "signal", "bounce", "low", "high"] F__law_marks := by
  obtain ⟨fd, F⟩ := E.d__law_marks
  obtain ⟨fd__law_is_up, G__law_is_up, B__law_is_up, K__law_is_up⟩ := ok__law_is_up (P := P) (w := w) E
  refine ⟨fd, fn_gc (fn_okC F sc__law_marks fun A outer s H E0 hr => ?_), F.fun.binds (ps := ["ticks", "signal", "bounce", "low", "high"]) fun _ _ _ _ _ _ us hl => match us, hl with | [_, _, _, _, _], _ => rfl, F.kp⟩
  exact (dss_cons (ds_set (i := 5) sc__law_marks.nd rfl (by first | exact .inl rfl | exact .inr rfl) (de_lstM da_nil))
    (dss_cons (ds_for PassesOwn.never rfl (di_rng2 rfl E.z_range (dv 3) (dv 4)) (dg_of (pg_name (i := 6) sc__law_marks.nd rfl (by first | exact .inl rfl | exact .inr rfl))) (dss_cons (ds_setLc (i := 7) rfl sc__law_marks.nd rfl rfl (by rfl) (di_seq (dv 0)) (own := [("true", 8)]) (blkOk_by rfl) (by decide) (fun _ _ _ _ _ => (dg_of (pg_name (i := 8) sc__law_marks.nd rfl (by first | exact .inl rfl | exact .inr rfl)))) (fun _ _ _ _ _ => (dts_one (dt_ch (op_le) (op_ltAny (hu65 hr)) (ok_cmpI _) ok_lt (dv 8) (dv 6) (xAdd (dv 8) (dv 2))))) (fun _ _ _ _ _ => (dv 8)))
    (dss_one (ds_expr (de_append (dv 5) (da_cons (de_if (yNe hr (dv 7) (de_lst da_nil)) de_int (de_if (yNe hr (de_call G__law_is_up (hr.mono (by decide : 1 ≤ 1)) rfl E.g__law_is_up K__law_is_up B__law_is_up (da_cons (dv 1) (da_cons (dv 6) da_nil))) (de_call G__law_is_up (hr.mono (by decide : 1 ≤ 1)) rfl E.g__law_is_up K__law_is_up B__law_is_up (da_cons (dv 0) (da_cons (dv 6) da_nil)))) de_int de_int)) da_nil))))))
    (dss_one (ds_retF (dv 5)))))
theorem ok__law_spans (E : Fx K mg base) : OkD P w K mg base (TT K) 3 ("_law_spans", none) ["ticks", "signal", "bounce"] F__law_spans := by
  obtain ⟨fd, F⟩ := E.d__law_spans
  obtain ⟨fd__law_marks, G__law_marks, B__law_marks, K__law_marks⟩ := ok__law_marks (P := P) (w := w) E
  refine ⟨fd, fn_gc (fn_okC F sc__law_spans fun A outer s H E0 hr => ?_), F.fun.binds (ps := ["ticks", "signal", "bounce"]) fun _ _ _ _ _ _ us hl => match us, hl with | [_, _, _], _ => rfl, F.kp⟩
  exact (dss_cons (ds_par (i := 3) (j := 4) rfl sc__law_spans.nd rfl rfl (by decide) rfl rfl (de_sset rfl rfl E.z_sorted rfl E.z_set (xAdd (xAdd (xAdd (de_lst (da_cons de_int da_nil)) (de_cty ok_list call_list_of rfl E.z_list PyProof.Rows.boot_list (da_cons (dv 0) da_nil))) (de_lc rfl sc__law_spans.nd (di_seq (dv 0)) (own := [("tick", 8)]) (blkOk_by rfl) (by decide) (fun _ _ _ _ _ => (dg_of (pg_name (i := 8) sc__law_spans.nd rfl (by first | exact .inl rfl | exact .inr rfl)))) (fun _ _ _ _ _ => dts_nil) (fun _ _ _ _ _ => (xAdd (dv 8) (dv 2))))) (de_cty ok_list call_list_of rfl E.z_list PyProof.Rows.boot_list (da_cons (dv 1) da_nil)))) (de_lstM da_nil) (by rfl))
    (dss_cons (ds_for PassesOwn.never rfl (di_rng1 rfl E.z_range (de_cb ok_len call_len rfl E.z_len PySem.boot_len (da_cons (dv 3) da_nil))) (dg_of (pg_name (i := 5) sc__law_spans.nd rfl (by first | exact .inl rfl | exact .inr rfl))) (dss_cons (ds_par (i := 6) (j := 7) rfl sc__law_spans.nd rfl rfl (by decide) rfl rfl (de_ix (de_call G__law_marks (hr.mono (by decide : 2 ≤ 2)) rfl E.g__law_marks K__law_marks B__law_marks (da_cons (dv 0) (da_cons (dv 1) (da_cons (dv 2) (da_cons (de_ix (dv 3) (dv 5)) (da_cons (xAdd (de_ix (dv 3) (dv 5)) de_int) da_nil)))))) de_int) (de_ix (xAdd (dv 3) (de_lst (da_cons de_non da_nil))) (xAdd (dv 5) de_int)) (by rfl))
    (dss_one (ds_if (dt_w (dw_and (yNe hr (dv 4) (de_lst da_nil)) (dw_and1 (yEq hr (de_ix (de_ix (dv 4) (xNeg de_int)) de_int) (dv 6))))) (dss_one (ds_setIx (de_tup (da_cons (de_ix (de_ix (dv 4) (xNeg de_int)) de_int) (da_cons (dv 7) (da_cons (dv 6) da_nil)))) (dv 4) (xNeg de_int))) (dss_one (ds_expr (de_append (dv 4) (da_cons (de_tup (da_cons (de_ix (dv 3) (dv 5)) (da_cons (dv 7) (da_cons (dv 6) da_nil)))) da_nil))))))))
    (dss_one (ds_retF (dv 4)))))
theorem ok__law_fits_far (E : Fx K mg base) : OkD P w K mg base (TT K) 4 ("_law_fits_far", none) ["ticks", "signal", "bounds"] F__law_fits_far := by
  obtain ⟨fd, F⟩ := E.d__law_fits_far
  obtain ⟨fd__law_spans, G__law_spans, B__law_spans, K__law_spans⟩ := ok__law_spans (P := P) (w := w) E
  refine ⟨fd, (fn_okC F sc__law_fits_far fun A outer s H E0 hr => ?_), F.fun.binds (ps := ["ticks", "signal", "bounds"]) fun _ _ _ _ _ _ us hl => match us, hl with | [_, _, _], _ => rfl, F.kp⟩
  exact (dss_cons (ds_set (i := 3) sc__law_fits_far.nd rfl (by first | exact .inl rfl | exact .inr rfl) (de_call G__law_spans (hr.mono (by decide : 3 ≤ 3)) rfl E.g__law_spans K__law_spans B__law_spans (da_cons (dv 0) (da_cons (dv 1) (da_cons (de_ix (dv 2) de_int) da_nil)))))
    (dss_cons (ds_for PassesOwn.never rfl (di_rng1 rfl E.z_range (de_cb ok_len call_len rfl E.z_len PySem.boot_len (da_cons (dv 3) da_nil))) (dg_of (pg_name (i := 4) sc__law_fits_far.nd rfl (by first | exact .inl rfl | exact .inr rfl))) (dss_cons (ds_asg (de_ix (dv 3) (dv 4)) (dg_tup rfl (dgs_cons (dg_of (pg_name (i := 5) sc__law_fits_far.nd rfl (by first | exact .inl rfl | exact .inr rfl))) (dgs_cons (dg_of (pg_name (i := 6) sc__law_fits_far.nd rfl (by first | exact .inl rfl | exact .inr rfl))) (dgs_cons (dg_of (pg_name (i := 7) sc__law_fits_far.nd rfl (by first | exact .inl rfl | exact .inr rfl))) dgs_nil)))))
    (dss_cons (ds_if (dt_w (dw_and (yEq hr (dv 7) de_int) (dw_and1 (dt_w (dw_or (yIs (dv 6) de_non) (dw_or1 (yGt (xSub (dv 6) (dv 5)) (de_ix (dv 2) de_int)))))))) (dss_one (ds_ret de_bl)) dss_nil)
    (dss_cons (ds_if (dt_w (dw_and (yEq hr (dv 7) de_int) (dw_and (yGt (dv 4) de_int) (dw_and1 (dt_w (dw_or (yNe hr (de_ix (de_ix (dv 3) (xSub (dv 4) de_int)) de_int) de_int) (dw_or1 (dt_w (dw_and (yLt hr de_int (de_ix (de_ix (dv 3) (xSub (dv 4) de_int)) de_int)) (dw_and1 (yLt hr (xSub (dv 5) (de_ix (de_ix (dv 3) (xSub (dv 4) de_int)) de_int)) (de_ix (dv 2) de_int)))))))))))) (dss_one (ds_ret de_bl)) dss_nil)
    (dss_one (ds_if (dt_w (dw_and (yEq hr (dv 7) de_int) (dw_and1 (dt_w (dw_or (yNe hr (de_ix (de_ix (dv 3) (xAdd (dv 4) de_int)) de_int) de_int) (dw_or1 (dt_w (dw_and (yIsNot (de_ix (de_ix (dv 3) (xAdd (dv 4) de_int)) de_int) de_non) (dw_and1 (yLt hr (xSub (de_ix (de_ix (dv 3) (xAdd (dv 4) de_int)) de_int) (dv 6)) (de_ix (dv 2) de_int))))))))))) (dss_one (ds_ret de_bl)) dss_nil))))))
    (dss_one (ds_ret de_bl))))
theorem ok_is_closed_at (E : Fx K mg base) : OkD P w K mg base (TT K) 1 ("is_closed_at", none) ["signal", "tick"] F_is_closed_at := by
  obtain ⟨fd, F⟩ := E.d_is_closed_at
  refine ⟨fd, (fn_okC F sc_is_closed_at fun A outer s H E0 hr => ?_), F.fun.binds (ps := ["signal", "tick"]) fun _ _ _ _ _ _ us hl => match us, hl with | [_, _], _ => rfl, F.kp⟩
  exact (dss_one (ds_ret (xEq hr (xMod (de_cb ok_len call_len rfl E.z_len PySem.boot_len (da_cons (de_lc rfl sc_is_closed_at.nd (di_seq (dv 0)) (own := [("flip", 2)]) (blkOk_by rfl) (by decide) (fun _ _ _ _ _ => (dg_of (pg_name (i := 2) sc_is_closed_at.nd rfl (by first | exact .inl rfl | exact .inr rfl)))) (fun _ _ _ _ _ => (dts_one (yLe (dv 2) (dv 1)))) (fun _ _ _ _ _ => (dv 2))) da_nil)) de_int) de_int)))
theorem ok_wrong_spans (E : Fx K mg base) : OkD P w K mg base (TT K) 2 ("wrong_spans", none) ["ticks", "signal"] F_wrong_spans := by
  obtain ⟨fd, F⟩ := E.d_wrong_spans
  obtain ⟨fd_is_closed_at, G_is_closed_at, B_is_closed_at, K_is_closed_at⟩ := ok_is_closed_at (P := P) (w := w) E
  refine ⟨fd, fn_gc (fn_okC F sc_wrong_spans fun A outer s H E0 hr => ?_), F.fun.binds (ps := ["ticks", "signal"]) fun _ _ _ _ _ _ us hl => match us, hl with | [_, _], _ => rfl, F.kp⟩
  exact (dss_cons (ds_par (i := 2) (j := 3) rfl sc_wrong_spans.nd rfl rfl (by decide) rfl rfl (de_lstM da_nil) de_non (by rfl))
    (dss_cons (ds_for PassesOwn.never rfl (di_seq (de_sset rfl rfl E.z_sorted rfl E.z_set (xAdd (dv 0) (dv 1)))) (dg_of (pg_name (i := 4) sc_wrong_spans.nd rfl (by first | exact .inl rfl | exact .inr rfl))) (dss_cons (ds_set (i := 5) sc_wrong_spans.nd rfl (by first | exact .inl rfl | exact .inr rfl) (xNe hr (de_call G_is_closed_at (hr.mono (by decide : 1 ≤ 1)) rfl E.g_is_closed_at K_is_closed_at B_is_closed_at (da_cons (dv 1) (da_cons (dv 4) da_nil))) (de_call G_is_closed_at (hr.mono (by decide : 1 ≤ 1)) rfl E.g_is_closed_at K_is_closed_at B_is_closed_at (da_cons (dv 0) (da_cons (dv 4) da_nil)))))
    (dss_cons (ds_if (dt_w (dw_and (dt_tru (dv 5)) (dw_and1 (yIs (dv 3) de_non)))) (dss_one (ds_set (i := 3) sc_wrong_spans.nd rfl (by first | exact .inl rfl | exact .inr rfl) (dv 4))) dss_nil)
    (dss_one (ds_if (dt_w (dw_and (dt_not (dt_tru (dv 5))) (dw_and1 (yIsNot (dv 3) de_non)))) (dss_cons (ds_expr (de_append (dv 2) (da_cons (de_tup (da_cons (dv 3) (da_cons (dv 4) da_nil))) da_nil)))
    (dss_one (ds_set (i := 3) sc_wrong_spans.nd rfl (by first | exact .inl rfl | exact .inr rfl) de_non))) dss_nil)))))
    (dss_one (ds_retF (de_if (yIs (dv 3) de_non) (dv 2) (xAdd (dv 2) (de_lst (da_cons (de_tup (da_cons (dv 3) (da_cons de_non da_nil))) da_nil))))))))
theorem ok_bounce_spans (E : Fx K mg base) : OkD P w K mg base (TT K) 1 ("bounce_spans", none) ["ticks", "bounce"] F_bounce_spans := by
  obtain ⟨fd, F⟩ := E.d_bounce_spans
  refine ⟨fd, fn_gc (fn_okC F sc_bounce_spans fun A outer s H E0 hr => ?_), F.fun.binds (ps := ["ticks", "bounce"]) fun _ _ _ _ _ _ us hl => match us, hl with | [_, _], _ => rfl, F.kp⟩
  exact (dss_cons (ds_set (i := 2) sc_bounce_spans.nd rfl (by first | exact .inl rfl | exact .inr rfl) (de_lstM da_nil))
    (dss_cons (ds_for PassesOwn.never rfl (di_seq (dv 0)) (dg_of (pg_name (i := 3) sc_bounce_spans.nd rfl (by first | exact .inl rfl | exact .inr rfl))) (dss_one (ds_if (dt_w (dw_and (dt_tru (dv 2)) (dw_and1 (yLe (dv 3) (de_ix (de_ix (dv 2) (xNeg de_int)) de_int))))) (dss_one (ds_setIx (de_tup (da_cons (de_ix (de_ix (dv 2) (xNeg de_int)) de_int) (da_cons (xAdd (dv 3) (dv 1)) da_nil))) (dv 2) (xNeg de_int))) (dss_one (ds_expr (de_append (dv 2) (da_cons (de_tup (da_cons (dv 3) (da_cons (xAdd (dv 3) (dv 1)) da_nil))) da_nil)))))))
    (dss_one (ds_retF (dv 2)))))
theorem ok_without_span (E : Fx K mg base) : OkD P w K mg base (TT K) 1 ("without_span", none) ["span", "bounce"] F_without_span := by
  obtain ⟨fd, F⟩ := E.d_without_span
  refine ⟨fd, fn_gc (fn_okC F sc_without_span fun A outer s H E0 hr => ?_), F.fun.binds (ps := ["span", "bounce"]) fun _ _ _ _ _ _ us hl => match us, hl with | [_, _], _ => rfl, F.kp⟩
  exact (dss_cons (ds_asg (de_tup (da_cons (dv 0) (da_cons (dv 1) da_nil))) (dg_tup rfl (dgs_cons (dg_tup rfl (dgs_cons (dg_of (pg_name (i := 2) sc_without_span.nd rfl (by first | exact .inl rfl | exact .inr rfl))) (dgs_cons (dg_of (pg_name (i := 3) sc_without_span.nd rfl (by first | exact .inl rfl | exact .inr rfl))) dgs_nil))) (dgs_cons (dg_tup rfl (dgs_cons (dg_of (pg_name (i := 4) sc_without_span.nd rfl (by first | exact .inl rfl | exact .inr rfl))) (dgs_cons (dg_of (pg_name (i := 5) sc_without_span.nd rfl (by first | exact .inl rfl | exact .inr rfl))) dgs_nil))) dgs_nil))))
    (dss_cons (ds_set (i := 6) sc_without_span.nd rfl (by first | exact .inl rfl | exact .inr rfl) (de_lstM da_nil))
    (dss_cons (ds_if (yLt hr (dv 2) (dv 4)) (dss_one (ds_expr (de_append (dv 6) (da_cons (de_tup (da_cons (dv 2) (da_cons (de_if (dt_w (dw_or (yIs (dv 3) de_non) (dw_or1 (yGt (dv 3) (dv 4))))) (dv 4) (dv 3)) da_nil))) da_nil)))) dss_nil)
    (dss_cons (ds_if (dt_w (dw_or (yIs (dv 3) de_non) (dw_or1 (yGt (dv 3) (dv 5))))) (dss_one (ds_expr (de_append (dv 6) (da_cons (de_tup (da_cons (de_cb ok_max2 (call_max2 rfl) rfl E.z_max (by decide +kernel) (da_cons (dv 2) (da_cons (dv 5) da_nil))) (da_cons (dv 3) da_nil))) da_nil)))) dss_nil)
    (dss_one (ds_retF (de_lc rfl sc_without_span.nd (di_seqF (dv 6)) (own := [("one", 7)]) (blkOk_by rfl) (by decide) (fun _ _ _ _ _ => (dg_of (pg_name (i := 7) sc_without_span.nd rfl (by first | exact .inl rfl | exact .inr rfl)))) (fun _ _ _ _ _ => (dts_one (dt_w (dw_or (yIs (de_ix (dv 7) de_int) de_non) (dw_or1 (yLt hr (de_ix (dv 7) de_int) (de_ix (dv 7) de_int))))))) (fun _ _ _ _ _ => (dv 7)))))))))
theorem ok_bursts_of (E : Fx K mg base) : OkD P w K mg base (TT K) 3 ("bursts_of", none) ["ticks", "signal", "bounce"] F_bursts_of := by
  obtain ⟨fd, F⟩ := E.d_bursts_of
  obtain ⟨fd_wrong_spans, G_wrong_spans, B_wrong_spans, K_wrong_spans⟩ := ok_wrong_spans (P := P) (w := w) E
  obtain ⟨fd_bounce_spans, G_bounce_spans, B_bounce_spans, K_bounce_spans⟩ := ok_bounce_spans (P := P) (w := w) E
  obtain ⟨fd_without_span, G_without_span, B_without_span, K_without_span⟩ := ok_without_span (P := P) (w := w) E
  refine ⟨fd, (fn_okC F sc_bursts_of fun A outer s H E0 hr => ?_), F.fun.binds (ps := ["ticks", "signal", "bounce"]) fun _ _ _ _ _ _ us hl => match us, hl with | [_, _, _], _ => rfl, F.kp⟩
  exact (dss_cons (ds_set (i := 3) sc_bursts_of.nd rfl (by first | exact .inl rfl | exact .inr rfl) (de_call G_wrong_spans (hr.mono (by decide : 2 ≤ 2)) rfl E.g_wrong_spans K_wrong_spans B_wrong_spans (da_cons (dv 0) (da_cons (dv 1) da_nil))))
    (dss_cons (ds_for PassesOwn.never rfl (di_seq (de_call G_bounce_spans (hr.mono (by decide : 1 ≤ 2)) rfl E.g_bounce_spans K_bounce_spans B_bounce_spans (da_cons (dv 0) (da_cons (dv 2) da_nil)))) (dg_of (pg_name (i := 4) sc_bursts_of.nd rfl (by first | exact .inl rfl | exact .inr rfl))) (dss_one (ds_setLc2 (i := 3) (vs1 := [6]) rfl sc_bursts_of.nd rfl rfl (by rfl) (di_seq (dv 3)) (own := [("one", 5), ("part", 6)]) (blkOk_by rfl) (by decide) (by decide) (by decide) (fun _ _ _ _ _ => (dg_of (pg_name (i := 5) sc_bursts_of.nd rfl (by first | exact .inl rfl | exact .inr rfl)))) (fun _ _ _ _ _ => dts_nil) (fun _ _ _ _ _ => (di_seq (de_call G_without_span (hr.mono (by decide : 1 ≤ 2)) rfl E.g_without_span K_without_span B_without_span (da_cons (dv 5) (da_cons (dv 4) da_nil))))) (fun _ _ _ _ _ => (dg_of (pg_name (i := 6) sc_bursts_of.nd rfl (by first | exact .inl rfl | exact .inr rfl)))) (fun _ _ _ _ _ => dts_nil) (fun _ _ _ _ _ => (dv 6)))))
    (dss_one (ds_ret (dv 3)))))
theorem ok_is_quiet_about (E : Fx K mg base) : OkD P w K mg base (TT K) 1 ("is_quiet_about", none) ["burst", "others", "quiet"] F_is_quiet_about := by
  obtain ⟨fd, F⟩ := E.d_is_quiet_about
  refine ⟨fd, (fn_okC F sc_is_quiet_about fun A outer s H E0 hr => ?_), F.fun.binds (ps := ["burst", "others", "quiet"]) fun _ _ _ _ _ _ us hl => match us, hl with | [_, _, _], _ => rfl, F.kp⟩
  exact (dss_cons (ds_asg (dv 0) (dg_tup rfl (dgs_cons (dg_of (pg_name (i := 3) sc_is_quiet_about.nd rfl (by first | exact .inl rfl | exact .inr rfl))) (dgs_cons (dg_of (pg_name (i := 4) sc_is_quiet_about.nd rfl (by first | exact .inl rfl | exact .inr rfl))) dgs_nil))))
    (dss_cons (ds_for PassesOwn.never rfl (di_seq (dv 1)) (dg_tup rfl (dgs_cons (dg_of (pg_name (i := 5) sc_is_quiet_about.nd rfl (by first | exact .inl rfl | exact .inr rfl))) (dgs_cons (dg_of (pg_name (i := 6) sc_is_quiet_about.nd rfl (by first | exact .inl rfl | exact .inr rfl))) dgs_nil))) (dss_one (ds_if (dt_w (dw_or (dt_w (dw_and (yGe (dv 5) (dv 4)) (dw_and1 (yLt hr (xSub (dv 5) (dv 4)) (dv 2))))) (dw_or1 (dt_w (dw_and (yLt hr (dv 5) (dv 3)) (dw_and1 (yLt hr (xSub (dv 3) (dv 6)) (dv 2)))))))) (dss_one (ds_ret de_bl)) dss_nil)))
    (dss_one (ds_ret de_bl))))
theorem ok_fits_signal (E : Fx K mg base) : OkD P w K mg base (TT K) 4 ("fits_signal", none) ["ticks", "signal", "bounds"] F_fits_signal := by
  obtain ⟨fd, F⟩ := E.d_fits_signal
  obtain ⟨fd_bursts_of, G_bursts_of, B_bursts_of, K_bursts_of⟩ := ok_bursts_of (P := P) (w := w) E
  obtain ⟨fd_bounce_spans, G_bounce_spans, B_bounce_spans, K_bounce_spans⟩ := ok_bounce_spans (P := P) (w := w) E
  obtain ⟨fd_is_quiet_about, G_is_quiet_about, B_is_quiet_about, K_is_quiet_about⟩ := ok_is_quiet_about (P := P) (w := w) E
  refine ⟨fd, (fn_okC F sc_fits_signal fun A outer s H E0 hr => ?_), F.fun.binds (ps := ["ticks", "signal", "bounds"]) fun _ _ _ _ _ _ us hl => match us, hl with | [_, _, _], _ => rfl, F.kp⟩
  exact (dss_cons (ds_asg (dv 2) (dg_tup rfl (dgs_cons (dg_of (pg_name (i := 3) sc_fits_signal.nd rfl (by first | exact .inl rfl | exact .inr rfl))) (dgs_cons (dg_of (pg_name (i := 4) sc_fits_signal.nd rfl (by first | exact .inl rfl | exact .inr rfl))) (dgs_cons (dg_of (pg_name (i := 5) sc_fits_signal.nd rfl (by first | exact .inl rfl | exact .inr rfl))) dgs_nil)))))
    (dss_cons (ds_par (i := 6) (j := 7) rfl sc_fits_signal.nd rfl rfl (by decide) rfl rfl (de_call G_bursts_of (hr.mono (by decide : 3 ≤ 3)) rfl E.g_bursts_of K_bursts_of B_bursts_of (da_cons (dv 0) (da_cons (dv 1) (da_cons (dv 3) da_nil)))) (de_call G_bounce_spans (hr.mono (by decide : 1 ≤ 3)) rfl E.g_bounce_spans K_bounce_spans B_bounce_spans (da_cons (dv 0) (da_cons (dv 3) da_nil))) (by rfl))
    (dss_cons (ds_if (dt_tru (de_anyG hr rfl E.z_any (E.tb ("fits_signal", none) tm_fits_signal) (TT_mem tm_fits_signal) rfl rfl sc_fits_signal.nd (di_seq (dv 6)) (own := [("first", 10), ("behind", 11)]) ⟨(blkOk_by rfl), rfl, by decide +kernel, rfl⟩ (by decide) (fun _ _ _ _ _ _ => (dg_tup rfl (dgs_cons (dg_of (pg_name (i := 10) sc_fits_signal.nd rfl (by first | exact .inl rfl | exact .inr rfl))) (dgs_cons (dg_of (pg_name (i := 11) sc_fits_signal.nd rfl (by first | exact .inl rfl | exact .inr rfl))) dgs_nil)))) (fun _ _ _ _ _ _ => dts_nil) (fun _ _ _ _ _ _ => (de_or (xIs (dv 11) de_non) (de_or1 (xGt (xSub (dv 11) (dv 10)) (dv 4))))))) (dss_one (ds_ret de_bl)) dss_nil)
    (dss_cons (ds_for PassesOwn.never rfl (di_seq (dv 6)) (dg_of (pg_name (i := 8) sc_fits_signal.nd rfl (by first | exact .inl rfl | exact .inr rfl))) (dss_cons (ds_set (i := 9) sc_fits_signal.nd rfl (by first | exact .inl rfl | exact .inr rfl) (xAdd (de_lc rfl sc_fits_signal.nd (di_seq (dv 6)) (own := [("other", 12)]) (blkOk_by rfl) (by decide) (fun _ _ _ _ _ => (dg_of (pg_name (i := 12) sc_fits_signal.nd rfl (by first | exact .inl rfl | exact .inr rfl)))) (fun _ _ _ _ _ => (dts_one (yNe hr (dv 12) (dv 8)))) (fun _ _ _ _ _ => (dv 12))) (dv 7)))
    (dss_one (ds_if (dt_not (dt_tru (de_call G_is_quiet_about (hr.mono (by decide : 1 ≤ 3)) rfl E.g_is_quiet_about K_is_quiet_about B_is_quiet_about (da_cons (dv 8) (da_cons (dv 9) (da_cons (dv 5) da_nil)))))) (dss_one (ds_ret de_bl)) dss_nil))))
    (dss_one (ds_ret de_bl))))))
theorem ok_is_number (E : Fx K mg base) : OkD P w K mg base (TT K) 1 ("is_number", none) ["value", "least", "most"] F_is_number := by
  obtain ⟨fd, F⟩ := E.d_is_number
  refine ⟨fd, (fn_okC F sc_is_number fun A outer s H E0 hr => ?_), F.fun.binds (ps := ["value", "least", "most"]) fun _ _ _ _ _ _ us hl => match us, hl with | [_, _, _], _ => rfl, F.kp⟩
  exact (dss_one (ds_ret (de_and (de_isi rfl E.z_isinstance (dv 0) rfl E.z_int (by decide +kernel)) (de_and (de_not (de_isi rfl E.z_isinstance (dv 0) rfl E.z_bool (by decide +kernel))) (de_and1 (de_ch (op_le) (op_le) (ok_cmpI _) (ok_cmpI _) (dv 1) (dv 0) (dv 2)))))))
theorem ok_is_row (E : Fx K mg base) : OkD P w K mg base (TT K) 1 ("is_row", none) ["value", "least", "most"] F_is_row := by
  obtain ⟨fd, F⟩ := E.d_is_row
  refine ⟨fd, (fn_okC F sc_is_row fun A outer s H E0 hr => ?_), F.fun.binds (ps := ["value", "least", "most"]) fun _ _ _ _ _ _ us hl => match us, hl with | [_, _, _], _ => rfl, F.kp⟩
  exact (dss_one (ds_ret (de_and (de_isi rfl E.z_isinstance (dv 0) rfl E.z_tuple (by decide +kernel)) (de_and1 (de_ch (op_le) (op_le) (ok_cmpI _) (ok_cmpI _) (dv 1) (de_cb ok_len call_len rfl E.z_len PySem.boot_len (da_cons (dv 0) da_nil)) (dv 2))))))
theorem ok_are_rising (E : Fx K mg base) : OkD P w K mg base (TT K) 4 ("are_rising", none) ["parts"] F_are_rising := by
  obtain ⟨fd, F⟩ := E.d_are_rising
  refine ⟨fd, (fn_okC F sc_are_rising fun A outer s H E0 hr => ?_), F.fun.binds (ps := ["parts"]) fun _ _ _ _ _ _ us hl => match us, hl with | [_], _ => rfl, F.kp⟩
  exact (dss_one (ds_ret (de_allG hr rfl E.z_all (E.tb ("are_rising", none) tm_are_rising) (TT_mem tm_are_rising) rfl rfl sc_are_rising.nd (di_zip rfl E.z_zip (dv 0) (de_sl (dv 0) (do_some de_int) do_no)) (own := [("one", 1), ("other", 2)]) ⟨(blkOk_by rfl), rfl, by decide +kernel, rfl⟩ (by decide) (fun _ _ _ _ _ _ => (dg_tup rfl (dgs_cons (dg_of (pg_name (i := 1) sc_are_rising.nd rfl (by first | exact .inl rfl | exact .inr rfl))) (dgs_cons (dg_of (pg_name (i := 2) sc_are_rising.nd rfl (by first | exact .inl rfl | exact .inr rfl))) dgs_nil)))) (fun _ _ _ _ _ _ => dts_nil) (fun _ _ _ _ _ _ => (xLt ((hr.mono (by decide : 3 ≤ 3)).in1.in1.deeper _) (dv 1) (dv 2))))))
theorem ok_is_signal (E : Fx K mg base) : OkD P w K mg base (TT K) 5 ("is_signal", none) ["value"] F_is_signal := by
  obtain ⟨fd, F⟩ := E.d_is_signal
  obtain ⟨fd_is_number, G_is_number, B_is_number, K_is_number⟩ := ok_is_number (P := P) (w := w) E
  obtain ⟨fd_is_row, G_is_row, B_is_row, K_is_row⟩ := ok_is_row (P := P) (w := w) E
  obtain ⟨fd_are_rising, G_are_rising, B_are_rising, K_are_rising⟩ := ok_are_rising (P := P) (w := w) E
  obtain ⟨t_LAST_TICK, c_LAST_TICK⟩ := E.i_LAST_TICK
  obtain ⟨t_MOST_FLIPS, c_MOST_FLIPS⟩ := E.i_MOST_FLIPS
  refine ⟨fd, (fn_okC F sc_is_signal fun A outer s H E0 hr => ?_), F.fun.binds (ps := ["value"]) fun _ _ _ _ _ _ us hl => match us, hl with | [_], _ => rfl, F.kp⟩
  exact (dss_cons (ds_if (dt_w (dw_or (dt_not (dt_tru (de_call G_is_row (hr.mono (by decide : 1 ≤ 4)) rfl E.g_is_row K_is_row B_is_row (da_cons (dv 0) (da_cons de_int (da_cons (de_gint rfl c_MOST_FLIPS) da_nil)))))) (dw_or1 (dt_not (dt_tru (de_allG hr rfl E.z_all (E.tb ("is_signal", none) tm_is_signal) (TT_mem tm_is_signal) rfl rfl sc_is_signal.nd (di_seq (dv 0)) (own := [("tick", 1)]) ⟨(blkOk_by rfl), rfl, by decide +kernel, rfl⟩ (by decide) (fun _ _ _ _ _ _ => (dg_of (pg_name (i := 1) sc_is_signal.nd rfl (by first | exact .inl rfl | exact .inr rfl)))) (fun _ _ _ _ _ _ => dts_nil) (fun _ _ _ _ _ _ => (de_call G_is_number ((hr.mono (by decide : 1 + 1 + 1 + 1 ≤ 4)).in1.in1.deeper _) rfl E.g_is_number K_is_number B_is_number (da_cons (dv 1) (da_cons de_int (da_cons (de_gint rfl c_LAST_TICK) da_nil))))))))))) (dss_one (ds_ret de_bl)) dss_nil)
    (dss_one (ds_ret (de_call G_are_rising (hr.mono (by decide : 4 ≤ 4)) rfl E.g_are_rising K_are_rising B_are_rising (da_cons (dv 0) da_nil)))))
theorem ok_Settler_init (E : Fx K mg base) : OkD P w K mg base (TT K) 1 ("Settler", some "__init__") ["self", "settle"] (F_Settler_init K) := by
  obtain ⟨fd, F⟩ := E.d_Settler_init
  refine ⟨fd, (fn_okC F sc_Settler_init fun A outer s H E0 hr => ?_), F.fun.binds (ps := ["self", "settle"]) fun _ _ _ _ _ _ us hl => match us, hl with | [_, _], _ => rfl, F.kp⟩
  exact (dss_cons (ds_fld (dv 0) (dv 1) E.cl_Settler E.na_Settler__settle)
    (dss_cons (ds_fld (dv 0) de_bl E.cl_Settler E.na_Settler__is_down)
    (dss_one (ds_fld (dv 0) de_non E.cl_Settler E.na_Settler__first))))
theorem ok_Settler_hear (E : Fx K mg base) : OkD P w K mg base (TT K) 1 ("Settler", some "hear") ["self", "tick", "is_closed"] (F_Settler_hear K) := by
  obtain ⟨fd, F⟩ := E.d_Settler_hear
  refine ⟨fd, (fn_okC F sc_Settler_hear fun A outer s H E0 hr => ?_), F.fun.binds (ps := ["self", "tick", "is_closed"]) fun _ _ _ _ _ _ us hl => match us, hl with | [_, _, _], _ => rfl, F.kp⟩
  exact (dss_cons (ds_if (yEq hr (dv 2) (de_fld (dv 0) E.cl_Settler E.na_Settler__is_down)) (dss_cons (ds_fld (dv 0) de_non E.cl_Settler E.na_Settler__first)
    (dss_one (ds_ret de_bl))) dss_nil)
    (dss_cons (ds_if (yIs (de_fld (dv 0) E.cl_Settler E.na_Settler__first) de_non) (dss_one (ds_fld (dv 0) (dv 1) E.cl_Settler E.na_Settler__first)) dss_nil)
    (dss_cons (ds_if (yLt hr (xSub (dv 1) (de_fld (dv 0) E.cl_Settler E.na_Settler__first)) (de_fld (dv 0) E.cl_Settler E.na_Settler__settle)) (dss_one (ds_ret de_bl)) dss_nil)
    (dss_cons (ds_fld2 rfl (dv 0) (dv 0) (dv 2) de_non E.cl_Settler E.na_Settler__is_down E.na_Settler__first)
    (dss_one (ds_ret de_bl))))))
theorem ok_settled_ticks (E : Fx K mg base) : OkD P w K mg base (TT K) 3 ("settled_ticks", none) ["settle", "rows"] (F_settled_ticks K) := by
  obtain ⟨fd, F⟩ := E.d_settled_ticks
  obtain ⟨fd_Settler_init, G_Settler_init, B_Settler_init, K_Settler_init⟩ := ok_Settler_init (P := P) (w := w) E
  obtain ⟨fd_Settler_hear, G_Settler_hear, B_Settler_hear, K_Settler_hear⟩ := ok_Settler_hear (P := P) (w := w) E
  refine ⟨fd, fn_gc (fn_okC F sc_settled_ticks fun A outer s H E0 hr => ?_), F.fun.binds (ps := ["settle", "rows"]) fun _ _ _ _ _ _ us hl => match us, hl with | [_, _], _ => rfl, F.kp⟩
  exact (dss_cons (ds_set (i := 2) sc_settled_ticks.nd rfl (by first | exact .inl rfl | exact .inr rfl) (de_make E.mk_Settler G_Settler_init (hr.mono (by decide : 1 + 1 ≤ 2)) rfl E.g_Settler B_Settler_init (da_cons (dv 0) da_nil)))
    (dss_one (ds_ret (de_cty ok_tuple call_tuple_of rfl E.z_tuple PyProof.Rows.boot_tuple (da_cons (de_lc rfl sc_settled_ticks.nd (di_seq (dv 1)) (own := [("tick", 3), ("is_closed", 4)]) (blkOk_by rfl) (by decide) (fun _ _ _ _ _ => (dg_tup rfl (dgs_cons (dg_of (pg_name (i := 3) sc_settled_ticks.nd rfl (by first | exact .inl rfl | exact .inr rfl))) (dgs_cons (dg_of (pg_name (i := 4) sc_settled_ticks.nd rfl (by first | exact .inl rfl | exact .inr rfl))) dgs_nil)))) (fun _ _ _ _ _ => (dts_one (dt_tru (de_meth (dv 2) E.cl_Settler E.me_Settler_hear G_Settler_hear (hr.mono (by decide : 1 ≤ 2)) B_Settler_hear (da_cons (dv 3) (da_cons (dv 4) da_nil)))))) (fun _ _ _ _ _ => (dv 3))) da_nil)))))
theorem ok__law_turnings (E : Fx K mg base) : OkD P w K mg base (TT K) 1 ("_law_turnings", none) ["signal", "settle"] F__law_turnings := by
  obtain ⟨fd, F⟩ := E.d__law_turnings
  refine ⟨fd, (fn_okC F sc__law_turnings fun A outer s H E0 hr => ?_), F.fun.binds (ps := ["signal", "settle"]) fun _ _ _ _ _ _ us hl => match us, hl with | [_, _], _ => rfl, F.kp⟩
  exact (dss_cons (ds_par3 (i := 2) (j := 3) (l := 4) rfl sc__law_turnings.nd rfl rfl rfl (by decide) (by decide) (by decide) rfl rfl rfl de_int de_bl (xAdd (xAdd (de_lst (da_cons de_int da_nil)) (de_cty ok_list call_list_of rfl E.z_list PyProof.Rows.boot_list (da_cons (dv 0) da_nil))) (de_lst (da_cons de_non da_nil))) (by rfl))
    (dss_cons (ds_for PassesOwn.never rfl (di_rng1 rfl E.z_range (xSub (de_cb ok_len call_len rfl E.z_len PySem.boot_len (da_cons (dv 4) da_nil)) de_int)) (dg_of (pg_name (i := 5) sc__law_turnings.nd rfl (by first | exact .inl rfl | exact .inr rfl))) (dss_cons (ds_set (i := 6) sc__law_turnings.nd rfl (by first | exact .inl rfl | exact .inr rfl) (de_or (xIs (de_ix (dv 4) (xAdd (dv 5) de_int)) de_non) (de_or1 (xLt hr (xAdd (de_ix (dv 4) (dv 5)) (dv 1)) (de_ix (dv 4) (xAdd (dv 5) de_int))))))
    (dss_one (ds_if (dt_w (dw_and (yNe hr (xEq hr (xMod (dv 5) de_int) de_int) (dv 3)) (dw_and1 (dt_tru (dv 6))))) (dss_one (ds_par (i := 2) (j := 3) rfl sc__law_turnings.nd rfl rfl (by decide) rfl rfl (xAdd (dv 2) de_int) (de_not (dv 3)) (by rfl))) dss_nil))))
    (dss_one (ds_ret (dv 2)))))
theorem ok__law_is_fooled (E : Fx K mg base) : OkD P w K mg base (TT K) 6 ("_law_is_fooled", none) ["bounds", "settle", "told"] (F__law_is_fooled K) := by
  obtain ⟨fd, F⟩ := E.d__law_is_fooled
  obtain ⟨fd__law_are_numbers, G__law_are_numbers, B__law_are_numbers, K__law_are_numbers⟩ := ok__law_are_numbers (P := P) (w := w) E
  obtain ⟨fd__law_fits_far, G__law_fits_far, B__law_fits_far, K__law_fits_far⟩ := ok__law_fits_far (P := P) (w := w) E
  obtain ⟨fd_fits_signal, G_fits_signal, B_fits_signal, K_fits_signal⟩ := ok_fits_signal (P := P) (w := w) E
  obtain ⟨fd_is_signal, G_is_signal, B_is_signal, K_is_signal⟩ := ok_is_signal (P := P) (w := w) E
  obtain ⟨fd_settled_ticks, G_settled_ticks, B_settled_ticks, K_settled_ticks⟩ := ok_settled_ticks (P := P) (w := w) E
  obtain ⟨fd__law_is_up, G__law_is_up, B__law_is_up, K__law_is_up⟩ := ok__law_is_up (P := P) (w := w) E
  obtain ⟨fd__law_turnings, G__law_turnings, B__law_turnings, K__law_turnings⟩ := ok__law_turnings (P := P) (w := w) E
  refine ⟨fd, (fn_okC F sc__law_is_fooled fun A outer s H E0 hr => ?_), F.fun.binds (ps := ["bounds", "settle", "told"]) fun _ _ _ _ _ _ us hl => match us, hl with | [_, _, _], _ => rfl, F.kp⟩
  exact (dss_cons (ds_if (dt_w (dw_or (dt_not (dt_tru (de_isi rfl E.z_isinstance (dv 2) rfl E.z_tuple (by decide +kernel)))) (dw_or1 (yNe hr (de_cb ok_len call_len rfl E.z_len PySem.boot_len (da_cons (dv 2) da_nil)) de_int)))) (dss_one (ds_ret de_bl)) dss_nil)
    (dss_cons (ds_asg (dv 2) (dg_tup rfl (dgs_cons (dg_of (pg_name (i := 3) sc__law_is_fooled.nd rfl (by first | exact .inl rfl | exact .inr rfl))) (dgs_cons (dg_of (pg_name (i := 4) sc__law_is_fooled.nd rfl (by first | exact .inl rfl | exact .inr rfl))) dgs_nil))))
    (dss_cons (ds_if (dt_w (dw_or (dt_not (dt_tru (de_call G__law_are_numbers (hr.mono (by decide : 2 ≤ 5)) rfl E.g__law_are_numbers K__law_are_numbers B__law_are_numbers (da_cons (dv 3) (da_cons de_int (da_cons de_int (da_cons de_int da_nil))))))) (dw_or (dt_not (dt_tru (de_call G__law_are_numbers (hr.mono (by decide : 2 ≤ 5)) rfl E.g__law_are_numbers K__law_are_numbers B__law_are_numbers (da_cons (dv 4) (da_cons de_int (da_cons de_int (da_cons de_int da_nil))))))) (dw_or1 (yEq hr (de_cb ok_len call_len rfl E.z_len PySem.boot_len (da_cons (dv 3) da_nil)) de_int))))) (dss_one (ds_ret de_bl)) dss_nil)
    (dss_cons (ds_if (dt_w (dw_or (dt_w (dw_and (yEq hr (de_cb ok_len call_len rfl E.z_len PySem.boot_len (da_cons (dv 3) da_nil)) de_int) (dw_and1 (yLe (xSub (de_ix (dv 3) de_int) (de_ix (dv 3) de_int)) de_int)))) (dw_or1 (dt_not (dt_tru (de_call G__law_fits_far (hr.mono (by decide : 4 ≤ 5)) rfl E.g__law_fits_far K__law_fits_far B__law_fits_far (da_cons (dv 3) (da_cons (dv 4) (da_cons (dv 0) da_nil))))))))) (dss_one (ds_ret de_bl)) dss_nil)
    (dss_cons (ds_if (dt_w (dw_or (yIsNot (de_call G_is_signal (hr.mono (by decide : 5 ≤ 5)) rfl E.g_is_signal K_is_signal B_is_signal (da_cons (dv 4) da_nil)) de_bl) (dw_or1 (yIsNot (de_call G_fits_signal (hr.mono (by decide : 4 ≤ 5)) rfl E.g_fits_signal K_fits_signal B_fits_signal (da_cons (dv 3) (da_cons (dv 4) (da_cons (dv 0) da_nil)))) de_bl)))) (dss_one (ds_ret de_bl)) dss_nil)
    (dss_cons (ds_set (i := 5) sc__law_is_fooled.nd rfl (by first | exact .inl rfl | exact .inr rfl) (de_if (dt_w (dw_or (yEq hr (dv 4) (de_tup da_nil)) (dw_or1 (yGt (de_ix (dv 4) (xNeg de_int)) de_int)))) (de_lst da_nil) (de_listRg1 rfl rfl E.z_list rfl E.z_range (xAdd (xAdd (de_ix (dv 4) (xNeg de_int)) (dv 1)) de_int))))
    (dss_cons (ds_set (i := 6) sc__law_is_fooled.nd rfl (by first | exact .inl rfl | exact .inr rfl) (de_call G_settled_ticks (hr.mono (by decide : 3 ≤ 5)) rfl E.g_settled_ticks K_settled_ticks B_settled_ticks (da_cons (dv 1) (da_cons (de_cty ok_tuple call_tuple_of rfl E.z_tuple PyProof.Rows.boot_tuple (da_cons (de_lc rfl sc__law_is_fooled.nd (di_seq (dv 5)) (own := [("tick", 7)]) (blkOk_by rfl) (by decide) (fun _ _ _ _ _ => (dg_of (pg_name (i := 7) sc__law_is_fooled.nd rfl (by first | exact .inl rfl | exact .inr rfl)))) (fun _ _ _ _ _ => dts_nil) (fun _ _ _ _ _ => (de_tup (da_cons (dv 7) (da_cons (de_call G__law_is_up (hr.mono (by decide : 1 ≤ 5)) rfl E.g__law_is_up K__law_is_up B__law_is_up (da_cons (dv 4) (da_cons (dv 7) da_nil))) da_nil))))) da_nil)) da_nil))))
    (dss_cons (ds_if (dt_w (dw_and (yNe hr (dv 5) (de_lst da_nil)) (dw_and1 (dt_w (dw_or (dt_not (dt_tru (de_isi rfl E.z_isinstance (dv 6) rfl E.z_tuple (by decide +kernel)))) (dw_or1 (yNe hr (de_cb ok_len call_len rfl E.z_len PySem.boot_len (da_cons (dv 6) da_nil)) (de_call G__law_turnings (hr.mono (by decide : 1 ≤ 5)) rfl E.g__law_turnings K__law_turnings B__law_turnings (da_cons (dv 4) (da_cons (dv 1) da_nil)))))))))) (dss_one (ds_ret de_bl)) dss_nil)
    (dss_one (ds_ret (xGt (de_call G__law_turnings (hr.mono (by decide : 1 ≤ 5)) rfl E.g__law_turnings K__law_turnings B__law_turnings (da_cons (dv 4) (da_cons (dv 1) da_nil))) (de_cb ok_len call_len rfl E.z_len PySem.boot_len (da_cons (dv 3) da_nil)))))))))))))
theorem ok_law (E : Fx K mg base) : OkD P w K mg base (TT K) 7 ("law", none) ["script"] (F_law K) := by
  obtain ⟨fd, F⟩ := E.d_law
  obtain ⟨fd__law_box, G__law_box, B__law_box, K__law_box⟩ := ok__law_box (P := P) (w := w) E
  obtain ⟨fd__law_same, G__law_same, B__law_same, K__law_same⟩ := ok__law_same (P := P) (w := w) E
  obtain ⟨fd__law_draw, G__law_draw, B__law_draw, K__law_draw⟩ := ok__law_draw (P := P) (w := w) E
  obtain ⟨fd_fooling_signal, G_fooling_signal, B_fooling_signal, K_fooling_signal⟩ := ok_fooling_signal (P := P) (w := w) E
  obtain ⟨fd__law_is_fooled, G__law_is_fooled, B__law_is_fooled, K__law_is_fooled⟩ := ok__law_is_fooled (P := P) (w := w) E
  obtain ⟨t_LAST_DELAY, c_LAST_DELAY⟩ := E.i_LAST_DELAY
  refine ⟨fd, (fn_okC F sc_law fun A outer s H E0 hr => ?_), F.fun.binds (ps := ["script"]) fun _ _ _ _ _ _ us hl => match us, hl with | [_], _ => rfl, F.kp⟩
  exact (dss_cons (ds_set (i := 1) sc_law.nd rfl (by first | exact .inl rfl | exact .inr rfl) (de_call G__law_box (hr.mono (by decide : 1 ≤ 6)) rfl E.g__law_box K__law_box B__law_box (da_cons (dv 0) da_nil)))
    (dss_cons (ds_if (dt_not (dt_tru (de_call G__law_same (hr.mono (by decide : 1 ≤ 6)) rfl E.g__law_same K__law_same B__law_same (da_cons (de_gint rfl c_LAST_DELAY) (da_cons de_int da_nil))))) (dss_one (ds_ret de_bl)) dss_nil)
    (dss_cons (ds_for PassesOwn.never rfl (di_rng1 rfl E.z_range de_int) (dg_of (pg_name (i := 2) sc_law.nd rfl (by first | exact .inl rfl | exact .inr rfl))) (dss_cons (ds_set (i := 3) sc_law.nd rfl (by first | exact .inl rfl | exact .inr rfl) (de_ix (de_lst (da_cons de_int (da_cons de_int (da_cons de_int (da_cons de_int da_nil))))) (dv 2)))
    (dss_cons (ds_par3 (i := 4) (j := 5) (l := 6) rfl sc_law.nd rfl rfl rfl (by decide) (by decide) (by decide) rfl rfl rfl (xAdd de_int (de_call G__law_draw (hr.mono (by decide : 2 ≤ 6)) rfl E.g__law_draw K__law_draw B__law_draw (da_cons (dv 1) (da_cons (dv 3) da_nil)))) (de_call G__law_draw (hr.mono (by decide : 2 ≤ 6)) rfl E.g__law_draw K__law_draw B__law_draw (da_cons (dv 1) (da_cons (xAdd (dv 3) de_int) da_nil))) (xAdd de_int (de_call G__law_draw (hr.mono (by decide : 2 ≤ 6)) rfl E.g__law_draw K__law_draw B__law_draw (da_cons (dv 1) (da_cons (dv 3) da_nil)))) (by rfl))
    (dss_cons (ds_set (i := 5) sc_law.nd rfl (by first | exact .inl rfl | exact .inr rfl) (de_if (yEq hr (de_call G__law_draw (hr.mono (by decide : 2 ≤ 6)) rfl E.g__law_draw K__law_draw B__law_draw (da_cons (dv 1) (da_cons de_int da_nil))) de_int) de_int (dv 5)))
    (dss_cons (ds_set (i := 7) sc_law.nd rfl (by first | exact .inl rfl | exact .inr rfl) (de_ix (de_lst (da_cons (xSub (dv 5) de_int) (da_cons (dv 5) (da_cons (xSub (xDiv (dv 4) de_int) de_int) (da_cons (xDiv (dv 4) de_int) (da_cons (xAdd de_int (de_call G__law_draw (hr.mono (by decide : 2 ≤ 6)) rfl E.g__law_draw K__law_draw B__law_draw (da_cons (dv 1) (da_cons (dv 3) da_nil)))) da_nil)))))) (de_call G__law_draw (hr.mono (by decide : 2 ≤ 6)) rfl E.g__law_draw K__law_draw B__law_draw (da_cons (dv 1) (da_cons de_int da_nil)))))
    (dss_cons (ds_par (i := 8) (j := 9) rfl sc_law.nd rfl rfl (by decide) rfl rfl (de_cb ok_max2 (call_max2 rfl) rfl E.z_max (by decide +kernel) (da_cons de_int (da_cons (dv 7) da_nil))) (de_tup (da_cons (dv 4) (da_cons (dv 5) (da_cons (dv 6) da_nil)))) (by rfl))
    (dss_cons (ds_set (i := 10) sc_law.nd rfl (by first | exact .inl rfl | exact .inr rfl) (de_call G_fooling_signal (hr.mono (by decide : 2 ≤ 6)) rfl E.g_fooling_signal K_fooling_signal B_fooling_signal (da_cons (dv 9) (da_cons (dv 8) da_nil))))
    (dss_one (ds_if (dt_w (dw_and (yGe (dv 8) (dv 5)) (dw_and1 (yGt (xAdd (xMul de_int (dv 8)) de_int) (dv 4))))) (dss_one (ds_if (yIsNot (dv 10) de_non) (dss_one (ds_ret de_bl)) dss_nil)) (dss_one (ds_if (dt_not (dt_tru (de_call G__law_is_fooled (hr.mono (by decide : 6 ≤ 6)) rfl E.g__law_is_fooled K__law_is_fooled B__law_is_fooled (da_cons (dv 9) (da_cons (dv 8) (da_cons (dv 10) da_nil)))))) (dss_one (ds_ret de_bl)) dss_nil)))))))))))
    (dss_one (ds_ret de_bl)))))
end
/-! ### the head -/
def dD__law_box : He.DefD := ⟨("_law_box", none), "_law_box", "_law_box", defArgs s__law_box, defBody s__law_box, defScope s__law_box, [], []⟩
def dD__law_same : He.DefD := ⟨("_law_same", none), "_law_same", "_law_same", defArgs s__law_same, defBody s__law_same, defScope s__law_same, [], []⟩
def dD__law_load : He.DefD := ⟨("_law_load", none), "_law_load", "_law_load", defArgs s__law_load, defBody s__law_load, defScope s__law_load, [], []⟩
def dD__law_draw : He.DefD := ⟨("_law_draw", none), "_law_draw", "_law_draw", defArgs s__law_draw, defBody s__law_draw, defScope s__law_draw, [], []⟩
def dD_does_turn_once : He.DefD := ⟨("does_turn_once", none), "does_turn_once", "does_turn_once", defArgs s_does_turn_once, defBody s_does_turn_once, defScope s_does_turn_once, [], []⟩
def dD_fooling_signal : He.DefD := ⟨("fooling_signal", none), "fooling_signal", "fooling_signal", defArgs s_fooling_signal, defBody s_fooling_signal, defScope s_fooling_signal, [], []⟩
def dD__law_is_number : He.DefD := ⟨("_law_is_number", none), "_law_is_number", "_law_is_number", defArgs s__law_is_number, defBody s__law_is_number, defScope s__law_is_number, [], []⟩
def dD__law_are_rising : He.DefD := ⟨("_law_are_rising", none), "_law_are_rising", "_law_are_rising", defArgs s__law_are_rising, defBody s__law_are_rising, defScope s__law_are_rising, [], []⟩
def dD__law_are_numbers : He.DefD := ⟨("_law_are_numbers", none), "_law_are_numbers", "_law_are_numbers", defArgs s__law_are_numbers, defBody s__law_are_numbers, defScope s__law_are_numbers, [], []⟩
def dD__law_is_up : He.DefD := ⟨("_law_is_up", none), "_law_is_up", "_law_is_up", defArgs s__law_is_up, defBody s__law_is_up, defScope s__law_is_up, [], []⟩
def dD__law_marks : He.DefD := ⟨("_law_marks", none), "_law_marks", "_law_marks", defArgs s__law_marks, defBody s__law_marks, defScope s__law_marks, [], []⟩
def dD__law_spans : He.DefD := ⟨("_law_spans", none), "_law_spans", "_law_spans", defArgs s__law_spans, defBody s__law_spans, defScope s__law_spans, [], []⟩
def dD__law_fits_far : He.DefD := ⟨("_law_fits_far", none), "_law_fits_far", "_law_fits_far", defArgs s__law_fits_far, defBody s__law_fits_far, defScope s__law_fits_far, [], []⟩
def dD_is_closed_at : He.DefD := ⟨("is_closed_at", none), "is_closed_at", "is_closed_at", defArgs s_is_closed_at, defBody s_is_closed_at, defScope s_is_closed_at, [], []⟩
def dD_wrong_spans : He.DefD := ⟨("wrong_spans", none), "wrong_spans", "wrong_spans", defArgs s_wrong_spans, defBody s_wrong_spans, defScope s_wrong_spans, [], []⟩
def dD_bounce_spans : He.DefD := ⟨("bounce_spans", none), "bounce_spans", "bounce_spans", defArgs s_bounce_spans, defBody s_bounce_spans, defScope s_bounce_spans, [], []⟩
def dD_without_span : He.DefD := ⟨("without_span", none), "without_span", "without_span", defArgs s_without_span, defBody s_without_span, defScope s_without_span, [], []⟩
def dD_bursts_of : He.DefD := ⟨("bursts_of", none), "bursts_of", "bursts_of", defArgs s_bursts_of, defBody s_bursts_of, defScope s_bursts_of, [], []⟩
def dD_is_quiet_about : He.DefD := ⟨("is_quiet_about", none), "is_quiet_about", "is_quiet_about", defArgs s_is_quiet_about, defBody s_is_quiet_about, defScope s_is_quiet_about, [], []⟩
def dD_fits_signal : He.DefD := ⟨("fits_signal", none), "fits_signal", "fits_signal", defArgs s_fits_signal, defBody s_fits_signal, defScope s_fits_signal, [], []⟩
def dD_is_number : He.DefD := ⟨("is_number", none), "is_number", "is_number", defArgs s_is_number, defBody s_is_number, defScope s_is_number, [], []⟩
def dD_is_row : He.DefD := ⟨("is_row", none), "is_row", "is_row", defArgs s_is_row, defBody s_is_row, defScope s_is_row, [], []⟩
def dD_are_rising : He.DefD := ⟨("are_rising", none), "are_rising", "are_rising", defArgs s_are_rising, defBody s_are_rising, defScope s_are_rising, [], []⟩
def dD_is_signal : He.DefD := ⟨("is_signal", none), "is_signal", "is_signal", defArgs s_is_signal, defBody s_is_signal, defScope s_is_signal, [], []⟩
def dD_Settler_init : He.DefD := ⟨("Settler", some "__init__"), "__init__", "Settler.__init__", defArgs s_Settler_init, defBody s_Settler_init, defScope s_Settler_init, [], []⟩
def dD_Settler_hear : He.DefD := ⟨("Settler", some "hear"), "hear", "Settler.hear", defArgs s_Settler_hear, defBody s_Settler_hear, defScope s_Settler_hear, [], []⟩
def dD_settled_ticks : He.DefD := ⟨("settled_ticks", none), "settled_ticks", "settled_ticks", defArgs s_settled_ticks, defBody s_settled_ticks, defScope s_settled_ticks, [], []⟩
def dD__law_turnings : He.DefD := ⟨("_law_turnings", none), "_law_turnings", "_law_turnings", defArgs s__law_turnings, defBody s__law_turnings, defScope s__law_turnings, [], []⟩
def dD__law_is_fooled : He.DefD := ⟨("_law_is_fooled", none), "_law_is_fooled", "_law_is_fooled", defArgs s__law_is_fooled, defBody s__law_is_fooled, defScope s__law_is_fooled, [], []⟩
def dD_law : He.DefD := ⟨("law", none), "law", "law", defArgs s_law, defBody s_law, defScope s_law, [], []⟩
def fnL : List He.DefD := [dD__law_box, dD__law_same, dD__law_load, dD__law_draw, dD_does_turn_once, dD_fooling_signal, dD__law_is_number, dD__law_are_rising, dD__law_are_numbers, dD__law_is_up, dD__law_marks, dD__law_spans, dD__law_fits_far, dD_is_closed_at, dD_wrong_spans, dD_bounce_spans, dD_without_span, dD_bursts_of, dD_is_quiet_about, dD_fits_signal, dD_is_number, dD_is_row, dD_are_rising, dD_is_signal, dD_Settler_init, dD_Settler_hear, dD_settled_ticks, dD__law_turnings, dD__law_is_fooled, dD_law]
def faL0 : List He.Fa := [.free "all", .free "any", .free "bool", .free "int", .free "isinstance", .free "len", .free "list", .free "max", .free "range", .free "set", .free "sorted", .free "str", .free "tuple", .free "zip", .glo "_law_box", .glo "_law_same", .glo "_law_load", .glo "_law_draw", .glo "does_turn_once", .glo "fooling_signal", .glo "_law_is_number", .glo "_law_are_rising", .glo "_law_are_numbers", .glo "_law_is_up", .glo "_law_marks", .glo "_law_spans", .glo "_law_fits_far", .glo "is_closed_at", .glo "wrong_spans", .glo "bounce_spans"]
def faL1 : List He.Fa := [.glo "without_span", .glo "bursts_of", .glo "is_quiet_about", .glo "fits_signal", .glo "is_number", .glo "is_row", .glo "are_rising", .glo "is_signal", .glo "settled_ticks", .glo "_law_turnings", .glo "_law_is_fooled", .glo "law", .glo "Settler", .cls "Settler", .noat "Settler" "_settle", .noat "Settler" "_is_down", .noat "Settler" "_first", .mkr "Settler", .meth "Settler" "hear", .int "LAST_DELAY" 4000, .int "LAST_TICK" 1000000, .int "MOST_FLIPS" 400]
def faL : List He.Fa := faL0 ++ faL1
abbrev R : PySem.W.OpenRow := PySem.W.OpenLaw.row PySem.Challenge.rw_keystotext_k51_whole_fooled
abbrev hk : PySem.W.Hook := He.hookX 5 faL fnL [] tfL fun _ => true
def ob (s : PySem.W.SharedT) : He.AlX := He.obsX 5 faL fnL [] tfL (fun _ => true) (HandSHeadRun.getT s)
theorem ob_eq (s : PySem.W.SharedT) : ob s = hk.obs s.abs := He.obsX_eq (HandSHeadRun.getT_eq s)
def looseL : List Str := ["is_number", "is_row", "are_rising", "LAST_TICK", "MOST_FLIPS", "is_signal", "is_closed_at", "bounce_spans", "wrong_spans", "without_span", "bursts_of", "is_quiet_about", "fits_signal", "LAST_DELAY", "Settler", "settled_ticks", "does_turn_once", "fooling_signal", "_law_box", "_law_load", "_law_draw", "_law_same", "_law_is_number", "_law_are_rising", "_law_are_numbers", "_law_is_up", "_law_marks", "_law_spans", "_law_fits_far", "_law_turnings", "_law_is_fooled"]
theorem fx_of {w : World} {K : PySem.W.Frag} {h base : Heap} {mg : Str → Option Value} (X : K.In base) (G : base.Ns mainGlobals mg) (c : He.SaysX faL fnL [] tfL (fun _ => true) w h K) (tb : ∀ p, p ∈ tfL → GxR.TabB base mg (He.codeOf K p) (He.cT K p).2) : Fx K mg base :=
  ⟨He.free_ok X G (c.t.d.fact 0 (f := .free "all") rfl),
   He.free_ok X G (c.t.d.fact 1 (f := .free "any") rfl),
   He.free_ok X G (c.t.d.fact 2 (f := .free "bool") rfl),
   He.free_ok X G (c.t.d.fact 3 (f := .free "int") rfl),
   He.free_ok X G (c.t.d.fact 4 (f := .free "isinstance") rfl),
   He.free_ok X G (c.t.d.fact 5 (f := .free "len") rfl),
   He.free_ok X G (c.t.d.fact 6 (f := .free "list") rfl),
   He.free_ok X G (c.t.d.fact 7 (f := .free "max") rfl),
   He.free_ok X G (c.t.d.fact 8 (f := .free "range") rfl),
   He.free_ok X G (c.t.d.fact 9 (f := .free "set") rfl),
   He.free_ok X G (c.t.d.fact 10 (f := .free "sorted") rfl),
   He.free_ok X G (c.t.d.fact 11 (f := .free "str") rfl),
   He.free_ok X G (c.t.d.fact 12 (f := .free "tuple") rfl),
   He.free_ok X G (c.t.d.fact 13 (f := .free "zip") rfl),
   He.glo_ok X G (c.t.d.fact 14 (f := .glo "_law_box") rfl),
   He.glo_ok X G (c.t.d.fact 15 (f := .glo "_law_same") rfl),
   He.glo_ok X G (c.t.d.fact 16 (f := .glo "_law_load") rfl),
   He.glo_ok X G (c.t.d.fact 17 (f := .glo "_law_draw") rfl),
   He.glo_ok X G (c.t.d.fact 18 (f := .glo "does_turn_once") rfl),
   He.glo_ok X G (c.t.d.fact 19 (f := .glo "fooling_signal") rfl),
   He.glo_ok X G (c.t.d.fact 20 (f := .glo "_law_is_number") rfl),
   He.glo_ok X G (c.t.d.fact 21 (f := .glo "_law_are_rising") rfl),
   He.glo_ok X G (c.t.d.fact 22 (f := .glo "_law_are_numbers") rfl),
   He.glo_ok X G (c.t.d.fact 23 (f := .glo "_law_is_up") rfl),
   He.glo_ok X G (c.t.d.fact 24 (f := .glo "_law_marks") rfl),
   He.glo_ok X G (c.t.d.fact 25 (f := .glo "_law_spans") rfl),
   He.glo_ok X G (c.t.d.fact 26 (f := .glo "_law_fits_far") rfl),
   He.glo_ok X G (c.t.d.fact 27 (f := .glo "is_closed_at") rfl),
   He.glo_ok X G (c.t.d.fact 28 (f := .glo "wrong_spans") rfl),
   He.glo_ok X G (c.t.d.fact 29 (f := .glo "bounce_spans") rfl),
   He.glo_ok X G (c.t.d.fact 30 (f := .glo "without_span") rfl),
   He.glo_ok X G (c.t.d.fact 31 (f := .glo "bursts_of") rfl),
   He.glo_ok X G (c.t.d.fact 32 (f := .glo "is_quiet_about") rfl),
   He.glo_ok X G (c.t.d.fact 33 (f := .glo "fits_signal") rfl),
   He.glo_ok X G (c.t.d.fact 34 (f := .glo "is_number") rfl),
   He.glo_ok X G (c.t.d.fact 35 (f := .glo "is_row") rfl),
   He.glo_ok X G (c.t.d.fact 36 (f := .glo "are_rising") rfl),
   He.glo_ok X G (c.t.d.fact 37 (f := .glo "is_signal") rfl),
   He.glo_ok X G (c.t.d.fact 38 (f := .glo "settled_ticks") rfl),
   He.glo_ok X G (c.t.d.fact 39 (f := .glo "_law_turnings") rfl),
   He.glo_ok X G (c.t.d.fact 40 (f := .glo "_law_is_fooled") rfl),
   He.glo_ok X G (c.t.d.fact 41 (f := .glo "law") rfl),
   He.glo_ok X G (c.t.d.fact 42 (f := .glo "Settler") rfl),
   He.cls_ok (c.t.d.fact 43 (f := .cls "Settler") rfl),
   He.noat_ok (c.t.d.fact 44 (f := .noat "Settler" "_settle") rfl),
   He.noat_ok (c.t.d.fact 45 (f := .noat "Settler" "_is_down") rfl),
   He.noat_ok (c.t.d.fact 46 (f := .noat "Settler" "_first") rfl),
   He.mkr_ok (c.t.d.fact 47 (f := .mkr "Settler") rfl),
   He.meth_ok (c.t.d.fact 48 (f := .meth "Settler" "hear") rfl),
   He.int_ok X G (c.t.d.fact 49 (f := .int "LAST_DELAY" 4000) rfl),
   He.int_ok X G (c.t.d.fact 50 (f := .int "LAST_TICK" 1000000) rfl),
   He.int_ok X G (c.t.d.fact 51 (f := .int "MOST_FLIPS" 400) rfl),
   (let ⟨fd, F⟩ := c.t.d.def_ 0 (d := dD__law_box) rfl; ⟨fd, funC_of F⟩),
   (let ⟨fd, F⟩ := c.t.d.def_ 1 (d := dD__law_same) rfl; ⟨fd, funC_of F⟩),
   (let ⟨fd, F⟩ := c.t.d.def_ 2 (d := dD__law_load) rfl; ⟨fd, funC_of F⟩),
   (let ⟨fd, F⟩ := c.t.d.def_ 3 (d := dD__law_draw) rfl; ⟨fd, funC_of F⟩),
   (let ⟨fd, F⟩ := c.t.d.def_ 4 (d := dD_does_turn_once) rfl; ⟨fd, funC_of F⟩),
   (let ⟨fd, F⟩ := c.t.d.def_ 5 (d := dD_fooling_signal) rfl; ⟨fd, funC_of F⟩),
   (let ⟨fd, F⟩ := c.t.d.def_ 6 (d := dD__law_is_number) rfl; ⟨fd, funC_of F⟩),
   (let ⟨fd, F⟩ := c.t.d.def_ 7 (d := dD__law_are_rising) rfl; ⟨fd, funC_of F⟩),
   (let ⟨fd, F⟩ := c.t.d.def_ 8 (d := dD__law_are_numbers) rfl; ⟨fd, funC_of F⟩),
   (let ⟨fd, F⟩ := c.t.d.def_ 9 (d := dD__law_is_up) rfl; ⟨fd, funC_of F⟩),
   (let ⟨fd, F⟩ := c.t.d.def_ 10 (d := dD__law_marks) rfl; ⟨fd, funC_of F⟩),
   (let ⟨fd, F⟩ := c.t.d.def_ 11 (d := dD__law_spans) rfl; ⟨fd, funC_of F⟩),
   (let ⟨fd, F⟩ := c.t.d.def_ 12 (d := dD__law_fits_far) rfl; ⟨fd, funC_of F⟩),
   (let ⟨fd, F⟩ := c.t.d.def_ 13 (d := dD_is_closed_at) rfl; ⟨fd, funC_of F⟩),
   (let ⟨fd, F⟩ := c.t.d.def_ 14 (d := dD_wrong_spans) rfl; ⟨fd, funC_of F⟩),
   (let ⟨fd, F⟩ := c.t.d.def_ 15 (d := dD_bounce_spans) rfl; ⟨fd, funC_of F⟩),
   (let ⟨fd, F⟩ := c.t.d.def_ 16 (d := dD_without_span) rfl; ⟨fd, funC_of F⟩),
   (let ⟨fd, F⟩ := c.t.d.def_ 17 (d := dD_bursts_of) rfl; ⟨fd, funC_of F⟩),
   (let ⟨fd, F⟩ := c.t.d.def_ 18 (d := dD_is_quiet_about) rfl; ⟨fd, funC_of F⟩),
   (let ⟨fd, F⟩ := c.t.d.def_ 19 (d := dD_fits_signal) rfl; ⟨fd, funC_of F⟩),
   (let ⟨fd, F⟩ := c.t.d.def_ 20 (d := dD_is_number) rfl; ⟨fd, funC_of F⟩),
   (let ⟨fd, F⟩ := c.t.d.def_ 21 (d := dD_is_row) rfl; ⟨fd, funC_of F⟩),
   (let ⟨fd, F⟩ := c.t.d.def_ 22 (d := dD_are_rising) rfl; ⟨fd, funC_of F⟩),
   (let ⟨fd, F⟩ := c.t.d.def_ 23 (d := dD_is_signal) rfl; ⟨fd, funC_of F⟩),
   (let ⟨fd, F⟩ := c.t.d.def_ 24 (d := dD_Settler_init) rfl; ⟨fd, funC_of F⟩),
   (let ⟨fd, F⟩ := c.t.d.def_ 25 (d := dD_Settler_hear) rfl; ⟨fd, funC_of F⟩),
   (let ⟨fd, F⟩ := c.t.d.def_ 26 (d := dD_settled_ticks) rfl; ⟨fd, funC_of F⟩),
   (let ⟨fd, F⟩ := c.t.d.def_ 27 (d := dD__law_turnings) rfl; ⟨fd, funC_of F⟩),
   (let ⟨fd, F⟩ := c.t.d.def_ 28 (d := dD__law_is_fooled) rfl; ⟨fd, funC_of F⟩),
   (let ⟨fd, F⟩ := c.t.d.def_ 29 (d := dD_law) rfl; ⟨fd, funC_of F⟩),
   tb⟩
end K51

namespace K51
open PySem PySem.Spec PyProof.Rows L2 DL
theorem ev_does (b n q s : Int) (h : -18446744073709551616 < s ∧ s < 18446744073709551616) (S : Store) : F_does_turn_once [.tup [.int b, .int n, .int q], .int s] S = some (.bl (decide (n ≤ s) && decide (b < 2 * s + 2)), S) := by
  by_cases h1 : n ≤ s
  · by_cases h2 : b < 2 * s + 2
    · simp (disch := omega) only [F_does_turn_once, B_does_turn_once, decide_eq_true h1, decide_eq_true h2, Bool.and_self, Option.bind_some, Option.bind_none, Option.map_some, List.length_cons, List.length_nil, List.length_map, List.map_cons, List.map_nil, List.set_cons_zero, List.set_cons_succ, List.cons_append, List.nil_append, List.append_nil, List.replicate_succ, List.replicate_zero, Nat.reduceAdd, Nat.reduceSub, Nat.reduceLeDiff, Nat.reduceLT, Nat.lt_irrefl, Int.reduceMod, Int.reduceBEq, Int.reduceMul, Int.reduceSub, Int.cast_ofNat_Int, Int.reduceToNat, Int.toNat_natCast, if_true, if_false, ite_true, ite_false, Bool.false_eq_true, Bool.true_eq_false, reduceIte, reduceCtorEq, Bool.not_true, Bool.not_false, sizeLine_eq, Nat.zero_add, Int.reduceAdd, Int.reduceNeg, Int.zero_add, beq_self_eq_true, eq_self, dAdd_lst, dAdd_tup, eVar0, eVarS, eC, eNil, eCons, eOp, eUn, eCB, eTst, eTru, eNot, eAnd, eOr, eIfE, eAndV, eOrV, eNotV, eCh, eTup, eLst, eLstM, eCall, eRet, eSeq, eSNil, eIf, eSet, eAsg, ePar, ePar3, eExpr, eFor, eForN, eForC, eGNm, eGNl, eGCs, eGTp, eSq, eAsT, eAsL, eZp, eR1, eR2, oR1, oR2, eLc, eLcN, eLcC, eYes, eWN, eWC, eGx, eGxN, eGxC, eRun, eStart, oAdd, oSub, oNeg, oMul, oMod, oDiv, oLeT, oLeF, oGtT, oGtF, oGeT, oGeF, oLtT, oLtF, oEqT, oEqF, oNeT, oNeF, oEqB, oNeB, oIsN, oIsNotN, iN1, iN2, iN3, oIsNotTT, oTB, oIxT, oIxL, oIxR, at0, at1, at2, at3, at4, at5, at6, atLast, atm1, atm2, atm4, oLenT, oLenL, oIntI, oTupL, oTupT, oListT, oMaxL, oMaxR, rng0, rngS, zipN, zipN2, zipC, eIsi, tyI, tyT, tyN, tyB, kII, kIB, kIT, kIL, kTT, eSetIx, eSl, eNo, ePart, oSl1, eMt, eAppend, eRetF, cellEnd, setEnd, ixm, ix31, ix32, atm3, atm5, toPys_ints, rw3_py, rows_py, oNeR, oNeR0, rw3_below, rows_below, eTruR, eIE1, eIE2, oNeI, oNeL0, oNeL1, oNeL2, kbTF, kbFT, insLt, insEq, insGt, insNil, ssetN, ssetC, eSS, asQT, asQL, asIN, asIC]
    · simp (disch := omega) only [F_does_turn_once, B_does_turn_once, decide_eq_true h1, decide_eq_false h2, Bool.and_false, Bool.true_and, Option.bind_some, Option.bind_none, Option.map_some, List.length_cons, List.length_nil, List.length_map, List.map_cons, List.map_nil, List.set_cons_zero, List.set_cons_succ, List.cons_append, List.nil_append, List.append_nil, List.replicate_succ, List.replicate_zero, Nat.reduceAdd, Nat.reduceSub, Nat.reduceLeDiff, Nat.reduceLT, Nat.lt_irrefl, Int.reduceMod, Int.reduceBEq, Int.reduceMul, Int.reduceSub, Int.cast_ofNat_Int, Int.reduceToNat, Int.toNat_natCast, if_true, if_false, ite_true, ite_false, Bool.false_eq_true, Bool.true_eq_false, reduceIte, reduceCtorEq, Bool.not_true, Bool.not_false, sizeLine_eq, Nat.zero_add, Int.reduceAdd, Int.reduceNeg, Int.zero_add, beq_self_eq_true, eq_self, dAdd_lst, dAdd_tup, eVar0, eVarS, eC, eNil, eCons, eOp, eUn, eCB, eTst, eTru, eNot, eAnd, eOr, eIfE, eAndV, eOrV, eNotV, eCh, eTup, eLst, eLstM, eCall, eRet, eSeq, eSNil, eIf, eSet, eAsg, ePar, ePar3, eExpr, eFor, eForN, eForC, eGNm, eGNl, eGCs, eGTp, eSq, eAsT, eAsL, eZp, eR1, eR2, oR1, oR2, eLc, eLcN, eLcC, eYes, eWN, eWC, eGx, eGxN, eGxC, eRun, eStart, oAdd, oSub, oNeg, oMul, oMod, oDiv, oLeT, oLeF, oGtT, oGtF, oGeT, oGeF, oLtT, oLtF, oEqT, oEqF, oNeT, oNeF, oEqB, oNeB, oIsN, oIsNotN, iN1, iN2, iN3, oIsNotTT, oTB, oIxT, oIxL, oIxR, at0, at1, at2, at3, at4, at5, at6, atLast, atm1, atm2, atm4, oLenT, oLenL, oIntI, oTupL, oTupT, oListT, oMaxL, oMaxR, rng0, rngS, zipN, zipN2, zipC, eIsi, tyI, tyT, tyN, tyB, kII, kIB, kIT, kIL, kTT, eSetIx, eSl, eNo, ePart, oSl1, eMt, eAppend, eRetF, cellEnd, setEnd, ixm, ix31, ix32, atm3, atm5, toPys_ints, rw3_py, rows_py, oNeR, oNeR0, rw3_below, rows_below, eTruR, eIE1, eIE2, oNeI, oNeL0, oNeL1, oNeL2, kbTF, kbFT, insLt, insEq, insGt, insNil, ssetN, ssetC, eSS, asQT, asQL, asIN, asIC]
  · simp (disch := omega) only [F_does_turn_once, B_does_turn_once, decide_eq_false h1, Bool.false_and, Option.bind_some, Option.bind_none, Option.map_some, List.length_cons, List.length_nil, List.length_map, List.map_cons, List.map_nil, List.set_cons_zero, List.set_cons_succ, List.cons_append, List.nil_append, List.append_nil, List.replicate_succ, List.replicate_zero, Nat.reduceAdd, Nat.reduceSub, Nat.reduceLeDiff, Nat.reduceLT, Nat.lt_irrefl, Int.reduceMod, Int.reduceBEq, Int.reduceMul, Int.reduceSub, Int.cast_ofNat_Int, Int.reduceToNat, Int.toNat_natCast, if_true, if_false, ite_true, ite_false, Bool.false_eq_true, Bool.true_eq_false, reduceIte, reduceCtorEq, Bool.not_true, Bool.not_false, sizeLine_eq, Nat.zero_add, Int.reduceAdd, Int.reduceNeg, Int.zero_add, beq_self_eq_true, eq_self, dAdd_lst, dAdd_tup, eVar0, eVarS, eC, eNil, eCons, eOp, eUn, eCB, eTst, eTru, eNot, eAnd, eOr, eIfE, eAndV, eOrV, eNotV, eCh, eTup, eLst, eLstM, eCall, eRet, eSeq, eSNil, eIf, eSet, eAsg, ePar, ePar3, eExpr, eFor, eForN, eForC, eGNm, eGNl, eGCs, eGTp, eSq, eAsT, eAsL, eZp, eR1, eR2, oR1, oR2, eLc, eLcN, eLcC, eYes, eWN, eWC, eGx, eGxN, eGxC, eRun, eStart, oAdd, oSub, oNeg, oMul, oMod, oDiv, oLeT, oLeF, oGtT, oGtF, oGeT, oGeF, oLtT, oLtF, oEqT, oEqF, oNeT, oNeF, oEqB, oNeB, oIsN, oIsNotN, iN1, iN2, iN3, oIsNotTT, oTB, oIxT, oIxL, oIxR, at0, at1, at2, at3, at4, at5, at6, atLast, atm1, atm2, atm4, oLenT, oLenL, oIntI, oTupL, oTupT, oListT, oMaxL, oMaxR, rng0, rngS, zipN, zipN2, zipC, eIsi, tyI, tyT, tyN, tyB, kII, kIB, kIT, kIL, kTT, eSetIx, eSl, eNo, ePart, oSl1, eMt, eAppend, eRetF, cellEnd, setEnd, ixm, ix31, ix32, atm3, atm5, toPys_ints, rw3_py, rows_py, oNeR, oNeR0, rw3_below, rows_below, eTruR, eIE1, eIE2, oNeI, oNeL0, oNeL1, oNeL2, kbTF, kbFT, insLt, insEq, insGt, insNil, ssetN, ssetC, eSS, asQT, asQL, asIN, asIC]
theorem ev_foolN (b n q s : Int) (h : -18446744073709551616 < s ∧ s < 18446744073709551616) (S : Store) (h1 : n ≤ s) (h2 : b < 2 * s + 2) : F_fooling_signal [.tup [.int b, .int n, .int q], .int s] S = some (.non, S) := by
  simp (disch := omega) only [F_fooling_signal, B_fooling_signal, ev_does b n q s h, decide_eq_true h1, decide_eq_true h2, Bool.and_self, Option.bind_some, Option.bind_none, Option.map_some, List.length_cons, List.length_nil, List.length_map, List.map_cons, List.map_nil, List.set_cons_zero, List.set_cons_succ, List.cons_append, List.nil_append, List.append_nil, List.replicate_succ, List.replicate_zero, Nat.reduceAdd, Nat.reduceSub, Nat.reduceLeDiff, Nat.reduceLT, Nat.lt_irrefl, Int.reduceMod, Int.reduceBEq, Int.reduceMul, Int.reduceSub, Int.cast_ofNat_Int, Int.reduceToNat, Int.toNat_natCast, if_true, if_false, ite_true, ite_false, Bool.false_eq_true, Bool.true_eq_false, reduceIte, reduceCtorEq, Bool.not_true, Bool.not_false, sizeLine_eq, Nat.zero_add, Int.reduceAdd, Int.reduceNeg, Int.zero_add, beq_self_eq_true, eq_self, dAdd_lst, dAdd_tup, eVar0, eVarS, eC, eNil, eCons, eOp, eUn, eCB, eTst, eTru, eNot, eAnd, eOr, eIfE, eAndV, eOrV, eNotV, eCh, eTup, eLst, eLstM, eCall, eRet, eSeq, eSNil, eIf, eSet, eAsg, ePar, ePar3, eExpr, eFor, eForN, eForC, eGNm, eGNl, eGCs, eGTp, eSq, eAsT, eAsL, eZp, eR1, eR2, oR1, oR2, eLc, eLcN, eLcC, eYes, eWN, eWC, eGx, eGxN, eGxC, eRun, eStart, oAdd, oSub, oNeg, oMul, oMod, oDiv, oLeT, oLeF, oGtT, oGtF, oGeT, oGeF, oLtT, oLtF, oEqT, oEqF, oNeT, oNeF, oEqB, oNeB, oIsN, oIsNotN, iN1, iN2, iN3, oIsNotTT, oTB, oIxT, oIxL, oIxR, at0, at1, at2, at3, at4, at5, at6, atLast, atm1, atm2, atm4, oLenT, oLenL, oIntI, oTupL, oTupT, oListT, oMaxL, oMaxR, rng0, rngS, zipN, zipN2, zipC, eIsi, tyI, tyT, tyN, tyB, kII, kIB, kIT, kIL, kTT, eSetIx, eSl, eNo, ePart, oSl1, eMt, eAppend, eRetF, cellEnd, setEnd, ixm, ix31, ix32, atm3, atm5, toPys_ints, rw3_py, rows_py, oNeR, oNeR0, rw3_below, rows_below, eTruR, eIE1, eIE2, oNeI, oNeL0, oNeL1, oNeL2, kbTF, kbFT, insLt, insEq, insGt, insNil, ssetN, ssetC, eSS, asQT, asQL, asIN, asIC]
theorem ev_foolA (b n q s : Int) (h : -18446744073709551616 < s ∧ s < 18446744073709551616) (S : Store) (h1 : s < n) : F_fooling_signal [.tup [.int b, .int n, .int q], .int s] S = some (.tup [.tup [], .tup [.int (q + 1), .int (q + 1 + s + 1)]], S) := by
  simp (disch := omega) only [F_fooling_signal, B_fooling_signal, ev_does b n q s h, decide_eq_false (show ¬ n ≤ s by omega), Bool.false_and, Option.bind_some, Option.bind_none, Option.map_some, List.length_cons, List.length_nil, List.length_map, List.map_cons, List.map_nil, List.set_cons_zero, List.set_cons_succ, List.cons_append, List.nil_append, List.append_nil, List.replicate_succ, List.replicate_zero, Nat.reduceAdd, Nat.reduceSub, Nat.reduceLeDiff, Nat.reduceLT, Nat.lt_irrefl, Int.reduceMod, Int.reduceBEq, Int.reduceMul, Int.reduceSub, Int.cast_ofNat_Int, Int.reduceToNat, Int.toNat_natCast, if_true, if_false, ite_true, ite_false, Bool.false_eq_true, Bool.true_eq_false, reduceIte, reduceCtorEq, Bool.not_true, Bool.not_false, sizeLine_eq, Nat.zero_add, Int.reduceAdd, Int.reduceNeg, Int.zero_add, beq_self_eq_true, eq_self, dAdd_lst, dAdd_tup, eVar0, eVarS, eC, eNil, eCons, eOp, eUn, eCB, eTst, eTru, eNot, eAnd, eOr, eIfE, eAndV, eOrV, eNotV, eCh, eTup, eLst, eLstM, eCall, eRet, eSeq, eSNil, eIf, eSet, eAsg, ePar, ePar3, eExpr, eFor, eForN, eForC, eGNm, eGNl, eGCs, eGTp, eSq, eAsT, eAsL, eZp, eR1, eR2, oR1, oR2, eLc, eLcN, eLcC, eYes, eWN, eWC, eGx, eGxN, eGxC, eRun, eStart, oAdd, oSub, oNeg, oMul, oMod, oDiv, oLeT, oLeF, oGtT, oGtF, oGeT, oGeF, oLtT, oLtF, oEqT, oEqF, oNeT, oNeF, oEqB, oNeB, oIsN, oIsNotN, iN1, iN2, iN3, oIsNotTT, oTB, oIxT, oIxL, oIxR, at0, at1, at2, at3, at4, at5, at6, atLast, atm1, atm2, atm4, oLenT, oLenL, oIntI, oTupL, oTupT, oListT, oMaxL, oMaxR, rng0, rngS, zipN, zipN2, zipC, eIsi, tyI, tyT, tyN, tyB, kII, kIB, kIT, kIL, kTT, eSetIx, eSl, eNo, ePart, oSl1, eMt, eAppend, eRetF, cellEnd, setEnd, ixm, ix31, ix32, atm3, atm5, toPys_ints, rw3_py, rows_py, oNeR, oNeR0, rw3_below, rows_below, eTruR, eIE1, eIE2, oNeI, oNeL0, oNeL1, oNeL2, kbTF, kbFT, insLt, insEq, insGt, insNil, ssetN, ssetC, eSS, asQT, asQL, asIN, asIC]
theorem ev_foolB (b n q s : Int) (h : -18446744073709551616 < s ∧ s < 18446744073709551616) (S : Store) (h1 : n ≤ s) (h2 : 2 * s + 2 ≤ b) : F_fooling_signal [.tup [.int b, .int n, .int q], .int s] S =
    some (.tup [.tup [.int (q + 1), .int (q + 1 + 2 * 4000)], .tup [.int (q + 1), .int (q + 1 + s + 1), .int (q + 1 + 2 * s + 2), .int (q + 1 + 2 * 4000)]], S) := by
  simp (disch := omega) only [F_fooling_signal, B_fooling_signal, ev_does b n q s h, decide_eq_false (show ¬ b < 2 * s + 2 by omega), Bool.and_false, Option.bind_some, Option.bind_none, Option.map_some, List.length_cons, List.length_nil, List.length_map, List.map_cons, List.map_nil, List.set_cons_zero, List.set_cons_succ, List.cons_append, List.nil_append, List.append_nil, List.replicate_succ, List.replicate_zero, Nat.reduceAdd, Nat.reduceSub, Nat.reduceLeDiff, Nat.reduceLT, Nat.lt_irrefl, Int.reduceMod, Int.reduceBEq, Int.reduceMul, Int.reduceSub, Int.cast_ofNat_Int, Int.reduceToNat, Int.toNat_natCast, if_true, if_false, ite_true, ite_false, Bool.false_eq_true, Bool.true_eq_false, reduceIte, reduceCtorEq, Bool.not_true, Bool.not_false, sizeLine_eq, Nat.zero_add, Int.reduceAdd, Int.reduceNeg, Int.zero_add, beq_self_eq_true, eq_self, dAdd_lst, dAdd_tup, eVar0, eVarS, eC, eNil, eCons, eOp, eUn, eCB, eTst, eTru, eNot, eAnd, eOr, eIfE, eAndV, eOrV, eNotV, eCh, eTup, eLst, eLstM, eCall, eRet, eSeq, eSNil, eIf, eSet, eAsg, ePar, ePar3, eExpr, eFor, eForN, eForC, eGNm, eGNl, eGCs, eGTp, eSq, eAsT, eAsL, eZp, eR1, eR2, oR1, oR2, eLc, eLcN, eLcC, eYes, eWN, eWC, eGx, eGxN, eGxC, eRun, eStart, oAdd, oSub, oNeg, oMul, oMod, oDiv, oLeT, oLeF, oGtT, oGtF, oGeT, oGeF, oLtT, oLtF, oEqT, oEqF, oNeT, oNeF, oEqB, oNeB, oIsN, oIsNotN, iN1, iN2, iN3, oIsNotTT, oTB, oIxT, oIxL, oIxR, at0, at1, at2, at3, at4, at5, at6, atLast, atm1, atm2, atm4, oLenT, oLenL, oIntI, oTupL, oTupT, oListT, oMaxL, oMaxR, rng0, rngS, zipN, zipN2, zipC, eIsi, tyI, tyT, tyN, tyB, kII, kIB, kIT, kIL, kTT, eSetIx, eSl, eNo, ePart, oSl1, eMt, eAppend, eRetF, cellEnd, setEnd, ixm, ix31, ix32, atm3, atm5, toPys_ints, rw3_py, rows_py, oNeR, oNeR0, rw3_below, rows_below, eTruR, eIE1, eIE2, oNeI, oNeL0, oNeL1, oNeL2, kbTF, kbFT, insLt, insEq, insGt, insNil, ssetN, ssetC, eSS, asQT, asQL, asIN, asIC]
/-! ### how many flips are behind -/
def cnt : List Int → Int → Nat
  | [], _ => 0
  | x :: r, t => if x ≤ t then cnt r t + 1 else cnt r t
theorem cntN (t : Int) : cnt [] t = 0 := rfl
theorem cntT {x t : Int} {r : List Int} (h : x ≤ t) : cnt (x :: r) t = cnt r t + 1 := if_pos h
theorem cntF {x t : Int} {r : List Int} (h : ¬ x ≤ t) : cnt (x :: r) t = cnt r t := if_neg h
theorem cnt_le (t : Int) : ∀ xs : List Int, cnt xs t ≤ xs.length
  | [] => Nat.le_refl _
  | x :: r => by
    have := cnt_le t r
    unfold cnt
    rw [List.length_cons]
    split <;> omega
def upB (xs : List Int) (t : Int) : Bool := ((cnt xs t : Nat) : Int) % 2 == 1
theorem lc_up {S : Store} {z : Option D} {t : Int} {w : Option D} : ∀ xs : List Int, ∃ l : List D, l.length = cnt xs t ∧ lcL (gNm 2) (fTst (fOp dLe (fVar 2) (fVar 1))) (fVar 2) (xs.map D.int) [z, some (.int t), w] S = some (l, S)
  | [] => ⟨[], rfl, rfl⟩
  | x :: r => by
    obtain ⟨l, e1, e2⟩ := lc_up (S := S) (z := z) (t := t) (w := none) r
    obtain ⟨l', e1', e2'⟩ := lc_up (S := S) (z := z) (t := t) (w := w) r
    by_cases h : x ≤ t
    · refine ⟨.int x :: l', by rw [cntT h, ← e1']; rfl, ?_⟩
      simp (disch := omega) only [e2', Option.bind_some, Option.bind_none, Option.map_some, List.length_cons, List.length_nil, List.length_map, List.map_cons, List.map_nil, List.set_cons_zero, List.set_cons_succ, List.cons_append, List.nil_append, List.append_nil, List.replicate_succ, List.replicate_zero, Nat.reduceAdd, Nat.reduceSub, Nat.reduceLeDiff, Nat.reduceLT, Nat.lt_irrefl, Int.reduceMod, Int.reduceBEq, Int.reduceMul, Int.reduceSub, Int.cast_ofNat_Int, Int.reduceToNat, Int.toNat_natCast, if_true, if_false, ite_true, ite_false, Bool.false_eq_true, Bool.true_eq_false, reduceIte, reduceCtorEq, Bool.not_true, Bool.not_false, sizeLine_eq, Nat.zero_add, Int.reduceAdd, Int.reduceNeg, Int.zero_add, beq_self_eq_true, eq_self, dAdd_lst, dAdd_tup, eVar0, eVarS, eC, eNil, eCons, eOp, eUn, eCB, eTst, eTru, eNot, eAnd, eOr, eIfE, eAndV, eOrV, eNotV, eCh, eTup, eLst, eLstM, eCall, eRet, eSeq, eSNil, eIf, eSet, eAsg, ePar, ePar3, eExpr, eFor, eForN, eForC, eGNm, eGNl, eGCs, eGTp, eSq, eAsT, eAsL, eZp, eR1, eR2, oR1, oR2, eLc, eLcN, eLcC, eYes, eWN, eWC, eGx, eGxN, eGxC, eRun, eStart, oAdd, oSub, oNeg, oMul, oMod, oDiv, oLeT, oLeF, oGtT, oGtF, oGeT, oGeF, oLtT, oLtF, oEqT, oEqF, oNeT, oNeF, oEqB, oNeB, oIsN, oIsNotN, iN1, iN2, iN3, oIsNotTT, oTB, oIxT, oIxL, oIxR, at0, at1, at2, at3, at4, at5, at6, atLast, atm1, atm2, atm4, oLenT, oLenL, oIntI, oTupL, oTupT, oListT, oMaxL, oMaxR, rng0, rngS, zipN, zipN2, zipC, eIsi, tyI, tyT, tyN, tyB, kII, kIB, kIT, kIL, kTT, eSetIx, eSl, eNo, ePart, oSl1, eMt, eAppend, eRetF, cellEnd, setEnd, ixm, ix31, ix32, atm3, atm5, toPys_ints, rw3_py, rows_py, oNeR, oNeR0, rw3_below, rows_below, eTruR, eIE1, eIE2, oNeI, oNeL0, oNeL1, oNeL2, kbTF, kbFT, insLt, insEq, insGt, insNil, ssetN, ssetC, eSS, asQT, asQL, asIN, asIC]
    · refine ⟨l', by rw [cntF h, ← e1'], ?_⟩
      simp (disch := omega) only [e2', Option.bind_some, Option.bind_none, Option.map_some, List.length_cons, List.length_nil, List.length_map, List.map_cons, List.map_nil, List.set_cons_zero, List.set_cons_succ, List.cons_append, List.nil_append, List.append_nil, List.replicate_succ, List.replicate_zero, Nat.reduceAdd, Nat.reduceSub, Nat.reduceLeDiff, Nat.reduceLT, Nat.lt_irrefl, Int.reduceMod, Int.reduceBEq, Int.reduceMul, Int.reduceSub, Int.cast_ofNat_Int, Int.reduceToNat, Int.toNat_natCast, if_true, if_false, ite_true, ite_false, Bool.false_eq_true, Bool.true_eq_false, reduceIte, reduceCtorEq, Bool.not_true, Bool.not_false, sizeLine_eq, Nat.zero_add, Int.reduceAdd, Int.reduceNeg, Int.zero_add, beq_self_eq_true, eq_self, dAdd_lst, dAdd_tup, eVar0, eVarS, eC, eNil, eCons, eOp, eUn, eCB, eTst, eTru, eNot, eAnd, eOr, eIfE, eAndV, eOrV, eNotV, eCh, eTup, eLst, eLstM, eCall, eRet, eSeq, eSNil, eIf, eSet, eAsg, ePar, ePar3, eExpr, eFor, eForN, eForC, eGNm, eGNl, eGCs, eGTp, eSq, eAsT, eAsL, eZp, eR1, eR2, oR1, oR2, eLc, eLcN, eLcC, eYes, eWN, eWC, eGx, eGxN, eGxC, eRun, eStart, oAdd, oSub, oNeg, oMul, oMod, oDiv, oLeT, oLeF, oGtT, oGtF, oGeT, oGeF, oLtT, oLtF, oEqT, oEqF, oNeT, oNeF, oEqB, oNeB, oIsN, oIsNotN, iN1, iN2, iN3, oIsNotTT, oTB, oIxT, oIxL, oIxR, at0, at1, at2, at3, at4, at5, at6, atLast, atm1, atm2, atm4, oLenT, oLenL, oIntI, oTupL, oTupT, oListT, oMaxL, oMaxR, rng0, rngS, zipN, zipN2, zipC, eIsi, tyI, tyT, tyN, tyB, kII, kIB, kIT, kIL, kTT, eSetIx, eSl, eNo, ePart, oSl1, eMt, eAppend, eRetF, cellEnd, setEnd, ixm, ix31, ix32, atm3, atm5, toPys_ints, rw3_py, rows_py, oNeR, oNeR0, rw3_below, rows_below, eTruR, eIE1, eIE2, oNeI, oNeL0, oNeL1, oNeL2, kbTF, kbFT, insLt, insEq, insGt, insNil, ssetN, ssetC, eSS, asQT, asQL, asIN, asIC]
theorem ev_up (xs : List Int) (t : Int) (S : Store) (h : xs.length ≤ 1000) : F__law_is_up [.tup (xs.map D.int), .int t] S = some (.bl (upB xs t), S) := by
  obtain ⟨l, e1, e2⟩ := lc_up (S := S) (z := some (.tup (xs.map D.int))) (t := t) (w := none) xs
  have hc := cnt_le t xs
  have hl : cnt xs t ≤ 16777216 := by omega
  simp (disch := omega) only [F__law_is_up, B__law_is_up, e2, hl, e1, dEq_i, upB, Option.bind_some, Option.bind_none, Option.map_some, List.length_cons, List.length_nil, List.length_map, List.map_cons, List.map_nil, List.set_cons_zero, List.set_cons_succ, List.cons_append, List.nil_append, List.append_nil, List.replicate_succ, List.replicate_zero, Nat.reduceAdd, Nat.reduceSub, Nat.reduceLeDiff, Nat.reduceLT, Nat.lt_irrefl, Int.reduceMod, Int.reduceBEq, Int.reduceMul, Int.reduceSub, Int.cast_ofNat_Int, Int.reduceToNat, Int.toNat_natCast, if_true, if_false, ite_true, ite_false, Bool.false_eq_true, Bool.true_eq_false, reduceIte, reduceCtorEq, Bool.not_true, Bool.not_false, sizeLine_eq, Nat.zero_add, Int.reduceAdd, Int.reduceNeg, Int.zero_add, beq_self_eq_true, eq_self, dAdd_lst, dAdd_tup, eVar0, eVarS, eC, eNil, eCons, eOp, eUn, eCB, eTst, eTru, eNot, eAnd, eOr, eIfE, eAndV, eOrV, eNotV, eCh, eTup, eLst, eLstM, eCall, eRet, eSeq, eSNil, eIf, eSet, eAsg, ePar, ePar3, eExpr, eFor, eForN, eForC, eGNm, eGNl, eGCs, eGTp, eSq, eAsT, eAsL, eZp, eR1, eR2, oR1, oR2, eLc, eLcN, eLcC, eYes, eWN, eWC, eGx, eGxN, eGxC, eRun, eStart, oAdd, oSub, oNeg, oMul, oMod, oDiv, oLeT, oLeF, oGtT, oGtF, oGeT, oGeF, oLtT, oLtF, oEqT, oEqF, oNeT, oNeF, oEqB, oNeB, oIsN, oIsNotN, iN1, iN2, iN3, oIsNotTT, oTB, oIxT, oIxL, oIxR, at0, at1, at2, at3, at4, at5, at6, atLast, atm1, atm2, atm4, oLenT, oLenL, oIntI, oTupL, oTupT, oListT, oMaxL, oMaxR, rng0, rngS, zipN, zipN2, zipC, eIsi, tyI, tyT, tyN, tyB, kII, kIB, kIT, kIL, kTT, eSetIx, eSl, eNo, ePart, oSl1, eMt, eAppend, eRetF, cellEnd, setEnd, ixm, ix31, ix32, atm3, atm5, toPys_ints, rw3_py, rows_py, oNeR, oNeR0, rw3_below, rows_below, eTruR, eIE1, eIE2, oNeI, oNeL0, oNeL1, oNeL2, kbTF, kbFT, insLt, insEq, insGt, insNil, ssetN, ssetC, eSS, asQT, asQL, asIN, asIC]
theorem ev_closed (xs : List Int) (t : Int) (S : Store) (h : xs.length ≤ 1000) : F_is_closed_at [.tup (xs.map D.int), .int t] S = some (.bl (upB xs t), S) := by
  obtain ⟨l, e1, e2⟩ := lc_up (S := S) (z := some (.tup (xs.map D.int))) (t := t) (w := none) xs
  have hc := cnt_le t xs
  have hl : cnt xs t ≤ 16777216 := by omega
  simp (disch := omega) only [F_is_closed_at, B_is_closed_at, e2, hl, e1, dEq_i, upB, Option.bind_some, Option.bind_none, Option.map_some, List.length_cons, List.length_nil, List.length_map, List.map_cons, List.map_nil, List.set_cons_zero, List.set_cons_succ, List.cons_append, List.nil_append, List.append_nil, List.replicate_succ, List.replicate_zero, Nat.reduceAdd, Nat.reduceSub, Nat.reduceLeDiff, Nat.reduceLT, Nat.lt_irrefl, Int.reduceMod, Int.reduceBEq, Int.reduceMul, Int.reduceSub, Int.cast_ofNat_Int, Int.reduceToNat, Int.toNat_natCast, if_true, if_false, ite_true, ite_false, Bool.false_eq_true, Bool.true_eq_false, reduceIte, reduceCtorEq, Bool.not_true, Bool.not_false, sizeLine_eq, Nat.zero_add, Int.reduceAdd, Int.reduceNeg, Int.zero_add, beq_self_eq_true, eq_self, dAdd_lst, dAdd_tup, eVar0, eVarS, eC, eNil, eCons, eOp, eUn, eCB, eTst, eTru, eNot, eAnd, eOr, eIfE, eAndV, eOrV, eNotV, eCh, eTup, eLst, eLstM, eCall, eRet, eSeq, eSNil, eIf, eSet, eAsg, ePar, ePar3, eExpr, eFor, eForN, eForC, eGNm, eGNl, eGCs, eGTp, eSq, eAsT, eAsL, eZp, eR1, eR2, oR1, oR2, eLc, eLcN, eLcC, eYes, eWN, eWC, eGx, eGxN, eGxC, eRun, eStart, oAdd, oSub, oNeg, oMul, oMod, oDiv, oLeT, oLeF, oGtT, oGtF, oGeT, oGeF, oLtT, oLtF, oEqT, oEqF, oNeT, oNeF, oEqB, oNeB, oIsN, oIsNotN, iN1, iN2, iN3, oIsNotTT, oTB, oIxT, oIxL, oIxR, at0, at1, at2, at3, at4, at5, at6, atLast, atm1, atm2, atm4, oLenT, oLenL, oIntI, oTupL, oTupT, oListT, oMaxL, oMaxR, rng0, rngS, zipN, zipN2, zipC, eIsi, tyI, tyT, tyN, tyB, kII, kIB, kIT, kIL, kTT, eSetIx, eSl, eNo, ePart, oSl1, eMt, eAppend, eRetF, cellEnd, setEnd, ixm, ix31, ix32, atm3, atm5, toPys_ints, rw3_py, rows_py, oNeR, oNeR0, rw3_below, rows_below, eTruR, eIE1, eIE2, oNeI, oNeL0, oNeL1, oNeL2, kbTF, kbFT, insLt, insEq, insGt, insNil, ssetN, ssetC, eSS, asQT, asQL, asIN, asIC]
theorem ev_up0 (t : Int) (S : Store) : F__law_is_up [.tup [], .int t] S = some (.bl false, S) := ev_up [] t S (by simp)
theorem ev_up2 (f g t : Int) (S : Store) : F__law_is_up [.tup [.int f, .int g], .int t] S = some (.bl (upB [f, g] t), S) := ev_up [f, g] t S (by simp)
theorem ev_up4 (f g h i t : Int) (S : Store) : F__law_is_up [.tup [.int f, .int g, .int h, .int i], .int t] S = some (.bl (upB [f, g, h, i] t), S) := ev_up [f, g, h, i] t S (by simp)
theorem ev_closed0 (t : Int) (S : Store) : F_is_closed_at [.tup [], .int t] S = some (.bl false, S) := ev_closed [] t S (by simp)
theorem ev_closed2 (f g t : Int) (S : Store) : F_is_closed_at [.tup [.int f, .int g], .int t] S = some (.bl (upB [f, g] t), S) := ev_closed [f, g] t S (by simp)
theorem ev_closed4 (f g h i t : Int) (S : Store) : F_is_closed_at [.tup [.int f, .int g, .int h, .int i], .int t] S = some (.bl (upB [f, g, h, i] t), S) := ev_closed [f, g, h, i] t S (by simp)
/-! ### marks -/
theorem ev_marksA (f g b k k' : Int) (S : Store) (hk : k' = k + 1) (h1 : 0 ≤ k ∧ k < 1000000) (hS : Sok S = true) : F__law_marks [.tup [], .tup [.int f, .int g], .int b, .int k, .int k'] S = some (.lst [.int (if upB [f, g] k then 2 else 0)], S) := by
  subst hk
  have e : (k + 1 - k).toNat = 1 := by omega
  refine gc_eq (R := [.dead]) ?_ hS rfl
  cases hu : upB [f, g] k
  · simp (disch := omega) only [B__law_marks, e, ev_up0, ev_up2, hu, Option.bind_some, Option.bind_none, Option.map_some, List.length_cons, List.length_nil, List.length_map, List.map_cons, List.map_nil, List.set_cons_zero, List.set_cons_succ, List.cons_append, List.nil_append, List.append_nil, List.replicate_succ, List.replicate_zero, Nat.reduceAdd, Nat.reduceSub, Nat.reduceLeDiff, Nat.reduceLT, Nat.lt_irrefl, Int.reduceMod, Int.reduceBEq, Int.reduceMul, Int.reduceSub, Int.cast_ofNat_Int, Int.reduceToNat, Int.toNat_natCast, if_true, if_false, ite_true, ite_false, Bool.false_eq_true, Bool.true_eq_false, reduceIte, reduceCtorEq, Bool.not_true, Bool.not_false, sizeLine_eq, Nat.zero_add, Int.reduceAdd, Int.reduceNeg, Int.zero_add, beq_self_eq_true, eq_self, dAdd_lst, dAdd_tup, eVar0, eVarS, eC, eNil, eCons, eOp, eUn, eCB, eTst, eTru, eNot, eAnd, eOr, eIfE, eAndV, eOrV, eNotV, eCh, eTup, eLst, eLstM, eCall, eRet, eSeq, eSNil, eIf, eSet, eAsg, ePar, ePar3, eExpr, eFor, eForN, eForC, eGNm, eGNl, eGCs, eGTp, eSq, eAsT, eAsL, eZp, eR1, eR2, oR1, oR2, eLc, eLcN, eLcC, eYes, eWN, eWC, eGx, eGxN, eGxC, eRun, eStart, oAdd, oSub, oNeg, oMul, oMod, oDiv, oLeT, oLeF, oGtT, oGtF, oGeT, oGeF, oLtT, oLtF, oEqT, oEqF, oNeT, oNeF, oEqB, oNeB, oIsN, oIsNotN, iN1, iN2, iN3, oIsNotTT, oTB, oIxT, oIxL, oIxR, at0, at1, at2, at3, at4, at5, at6, atLast, atm1, atm2, atm4, oLenT, oLenL, oIntI, oTupL, oTupT, oListT, oMaxL, oMaxR, rng0, rngS, zipN, zipN2, zipC, eIsi, tyI, tyT, tyN, tyB, kII, kIB, kIT, kIL, kTT, eSetIx, eSl, eNo, ePart, oSl1, eMt, eAppend, eRetF, cellEnd, setEnd, ixm, ix31, ix32, atm3, atm5, toPys_ints, rw3_py, rows_py, oNeR, oNeR0, rw3_below, rows_below, eTruR, eIE1, eIE2, oNeI, oNeL0, oNeL1, oNeL2, kbTF, kbFT, insLt, insEq, insGt, insNil, ssetN, ssetC, eSS, asQT, asQL, asIN, asIC]
  · simp (disch := omega) only [B__law_marks, e, ev_up0, ev_up2, hu, Option.bind_some, Option.bind_none, Option.map_some, List.length_cons, List.length_nil, List.length_map, List.map_cons, List.map_nil, List.set_cons_zero, List.set_cons_succ, List.cons_append, List.nil_append, List.append_nil, List.replicate_succ, List.replicate_zero, Nat.reduceAdd, Nat.reduceSub, Nat.reduceLeDiff, Nat.reduceLT, Nat.lt_irrefl, Int.reduceMod, Int.reduceBEq, Int.reduceMul, Int.reduceSub, Int.cast_ofNat_Int, Int.reduceToNat, Int.toNat_natCast, if_true, if_false, ite_true, ite_false, Bool.false_eq_true, Bool.true_eq_false, reduceIte, reduceCtorEq, Bool.not_true, Bool.not_false, sizeLine_eq, Nat.zero_add, Int.reduceAdd, Int.reduceNeg, Int.zero_add, beq_self_eq_true, eq_self, dAdd_lst, dAdd_tup, eVar0, eVarS, eC, eNil, eCons, eOp, eUn, eCB, eTst, eTru, eNot, eAnd, eOr, eIfE, eAndV, eOrV, eNotV, eCh, eTup, eLst, eLstM, eCall, eRet, eSeq, eSNil, eIf, eSet, eAsg, ePar, ePar3, eExpr, eFor, eForN, eForC, eGNm, eGNl, eGCs, eGTp, eSq, eAsT, eAsL, eZp, eR1, eR2, oR1, oR2, eLc, eLcN, eLcC, eYes, eWN, eWC, eGx, eGxN, eGxC, eRun, eStart, oAdd, oSub, oNeg, oMul, oMod, oDiv, oLeT, oLeF, oGtT, oGtF, oGeT, oGeF, oLtT, oLtF, oEqT, oEqF, oNeT, oNeF, oEqB, oNeB, oIsN, oIsNotN, iN1, iN2, iN3, oIsNotTT, oTB, oIxT, oIxL, oIxR, at0, at1, at2, at3, at4, at5, at6, atLast, atm1, atm2, atm4, oLenT, oLenL, oIntI, oTupL, oTupT, oListT, oMaxL, oMaxR, rng0, rngS, zipN, zipN2, zipC, eIsi, tyI, tyT, tyN, tyB, kII, kIB, kIT, kIL, kTT, eSetIx, eSl, eNo, ePart, oSl1, eMt, eAppend, eRetF, cellEnd, setEnd, ixm, ix31, ix32, atm3, atm5, toPys_ints, rw3_py, rows_py, oNeR, oNeR0, rw3_below, rows_below, eTruR, eIE1, eIE2, oNeI, oNeL0, oNeL1, oNeL2, kbTF, kbFT, insLt, insEq, insGt, insNil, ssetN, ssetC, eSS, asQT, asQL, asIN, asIC]
theorem ev_marksB1 (f g h i j l b k k' : Int) (S : Store) (hk : k' = k + 1) (h1 : 0 ≤ k ∧ k < 1000000) (hf : f ≤ k ∧ k < f + b) (hg : ¬ g ≤ k) (hS : Sok S = true) : F__law_marks [.tup [.int f, .int g], .tup [.int h, .int i, .int j, .int l], .int b, .int k, .int k'] S = some (.lst [.int 1], S) := by
  subst hk
  have e : (k + 1 - k).toNat = 1 := by omega
  refine gc_eq (R := [.dead]) ?_ hS rfl
  simp (disch := omega) only [B__law_marks, e, ev_up2, ev_up4, Option.bind_some, Option.bind_none, Option.map_some, List.length_cons, List.length_nil, List.length_map, List.map_cons, List.map_nil, List.set_cons_zero, List.set_cons_succ, List.cons_append, List.nil_append, List.append_nil, List.replicate_succ, List.replicate_zero, Nat.reduceAdd, Nat.reduceSub, Nat.reduceLeDiff, Nat.reduceLT, Nat.lt_irrefl, Int.reduceMod, Int.reduceBEq, Int.reduceMul, Int.reduceSub, Int.cast_ofNat_Int, Int.reduceToNat, Int.toNat_natCast, if_true, if_false, ite_true, ite_false, Bool.false_eq_true, Bool.true_eq_false, reduceIte, reduceCtorEq, Bool.not_true, Bool.not_false, sizeLine_eq, Nat.zero_add, Int.reduceAdd, Int.reduceNeg, Int.zero_add, beq_self_eq_true, eq_self, dAdd_lst, dAdd_tup, eVar0, eVarS, eC, eNil, eCons, eOp, eUn, eCB, eTst, eTru, eNot, eAnd, eOr, eIfE, eAndV, eOrV, eNotV, eCh, eTup, eLst, eLstM, eCall, eRet, eSeq, eSNil, eIf, eSet, eAsg, ePar, ePar3, eExpr, eFor, eForN, eForC, eGNm, eGNl, eGCs, eGTp, eSq, eAsT, eAsL, eZp, eR1, eR2, oR1, oR2, eLc, eLcN, eLcC, eYes, eWN, eWC, eGx, eGxN, eGxC, eRun, eStart, oAdd, oSub, oNeg, oMul, oMod, oDiv, oLeT, oLeF, oGtT, oGtF, oGeT, oGeF, oLtT, oLtF, oEqT, oEqF, oNeT, oNeF, oEqB, oNeB, oIsN, oIsNotN, iN1, iN2, iN3, oIsNotTT, oTB, oIxT, oIxL, oIxR, at0, at1, at2, at3, at4, at5, at6, atLast, atm1, atm2, atm4, oLenT, oLenL, oIntI, oTupL, oTupT, oListT, oMaxL, oMaxR, rng0, rngS, zipN, zipN2, zipC, eIsi, tyI, tyT, tyN, tyB, kII, kIB, kIT, kIL, kTT, eSetIx, eSl, eNo, ePart, oSl1, eMt, eAppend, eRetF, cellEnd, setEnd, ixm, ix31, ix32, atm3, atm5, toPys_ints, rw3_py, rows_py, oNeR, oNeR0, rw3_below, rows_below, eTruR, eIE1, eIE2, oNeI, oNeL0, oNeL1, oNeL2, kbTF, kbFT, insLt, insEq, insGt, insNil, ssetN, ssetC, eSS, asQT, asQL, asIN, asIC]
theorem ev_marksB2 (f g h i j l b k k' : Int) (S : Store) (hk : k' = k + 1) (h1 : 0 ≤ k ∧ k < 1000000) (hf : f ≤ k ∧ ¬ k < f + b) (hg : g ≤ k ∧ k < g + b) (hS : Sok S = true) : F__law_marks [.tup [.int f, .int g], .tup [.int h, .int i, .int j, .int l], .int b, .int k, .int k'] S = some (.lst [.int 1], S) := by
  subst hk
  have e : (k + 1 - k).toNat = 1 := by omega
  refine gc_eq (R := [.dead]) ?_ hS rfl
  simp (disch := omega) only [B__law_marks, e, ev_up2, ev_up4, Option.bind_some, Option.bind_none, Option.map_some, List.length_cons, List.length_nil, List.length_map, List.map_cons, List.map_nil, List.set_cons_zero, List.set_cons_succ, List.cons_append, List.nil_append, List.append_nil, List.replicate_succ, List.replicate_zero, Nat.reduceAdd, Nat.reduceSub, Nat.reduceLeDiff, Nat.reduceLT, Nat.lt_irrefl, Int.reduceMod, Int.reduceBEq, Int.reduceMul, Int.reduceSub, Int.cast_ofNat_Int, Int.reduceToNat, Int.toNat_natCast, if_true, if_false, ite_true, ite_false, Bool.false_eq_true, Bool.true_eq_false, reduceIte, reduceCtorEq, Bool.not_true, Bool.not_false, sizeLine_eq, Nat.zero_add, Int.reduceAdd, Int.reduceNeg, Int.zero_add, beq_self_eq_true, eq_self, dAdd_lst, dAdd_tup, eVar0, eVarS, eC, eNil, eCons, eOp, eUn, eCB, eTst, eTru, eNot, eAnd, eOr, eIfE, eAndV, eOrV, eNotV, eCh, eTup, eLst, eLstM, eCall, eRet, eSeq, eSNil, eIf, eSet, eAsg, ePar, ePar3, eExpr, eFor, eForN, eForC, eGNm, eGNl, eGCs, eGTp, eSq, eAsT, eAsL, eZp, eR1, eR2, oR1, oR2, eLc, eLcN, eLcC, eYes, eWN, eWC, eGx, eGxN, eGxC, eRun, eStart, oAdd, oSub, oNeg, oMul, oMod, oDiv, oLeT, oLeF, oGtT, oGtF, oGeT, oGeF, oLtT, oLtF, oEqT, oEqF, oNeT, oNeF, oEqB, oNeB, oIsN, oIsNotN, iN1, iN2, iN3, oIsNotTT, oTB, oIxT, oIxL, oIxR, at0, at1, at2, at3, at4, at5, at6, atLast, atm1, atm2, atm4, oLenT, oLenL, oIntI, oTupL, oTupT, oListT, oMaxL, oMaxR, rng0, rngS, zipN, zipN2, zipC, eIsi, tyI, tyT, tyN, tyB, kII, kIB, kIT, kIL, kTT, eSetIx, eSl, eNo, ePart, oSl1, eMt, eAppend, eRetF, cellEnd, setEnd, ixm, ix31, ix32, atm3, atm5, toPys_ints, rw3_py, rows_py, oNeR, oNeR0, rw3_below, rows_below, eTruR, eIE1, eIE2, oNeI, oNeL0, oNeL1, oNeL2, kbTF, kbFT, insLt, insEq, insGt, insNil, ssetN, ssetC, eSS, asQT, asQL, asIN, asIC]
theorem ev_marksB0 (f g h i j l b k k' : Int) (S : Store) (hk : k' = k + 1) (h1 : 0 ≤ k ∧ k < 1000000) (hf : ¬ f ≤ k ∨ f ≤ k ∧ ¬ k < f + b) (hg : ¬ g ≤ k ∨ g ≤ k ∧ ¬ k < g + b) (hu : upB [h, i, j, l] k = upB [f, g] k) (hS : Sok S = true) : F__law_marks [.tup [.int f, .int g], .tup [.int h, .int i, .int j, .int l], .int b, .int k, .int k'] S = some (.lst [.int 0], S) := by
  subst hk
  have e : (k + 1 - k).toNat = 1 := by omega
  refine gc_eq (R := [.dead]) ?_ hS rfl
  rcases hf with hf | hf <;> rcases hg with hg | hg <;>
  simp (disch := omega) only [B__law_marks, e, ev_up2, ev_up4, hu, Option.bind_some, Option.bind_none, Option.map_some, List.length_cons, List.length_nil, List.length_map, List.map_cons, List.map_nil, List.set_cons_zero, List.set_cons_succ, List.cons_append, List.nil_append, List.append_nil, List.replicate_succ, List.replicate_zero, Nat.reduceAdd, Nat.reduceSub, Nat.reduceLeDiff, Nat.reduceLT, Nat.lt_irrefl, Int.reduceMod, Int.reduceBEq, Int.reduceMul, Int.reduceSub, Int.cast_ofNat_Int, Int.reduceToNat, Int.toNat_natCast, if_true, if_false, ite_true, ite_false, Bool.false_eq_true, Bool.true_eq_false, reduceIte, reduceCtorEq, Bool.not_true, Bool.not_false, sizeLine_eq, Nat.zero_add, Int.reduceAdd, Int.reduceNeg, Int.zero_add, beq_self_eq_true, eq_self, dAdd_lst, dAdd_tup, eVar0, eVarS, eC, eNil, eCons, eOp, eUn, eCB, eTst, eTru, eNot, eAnd, eOr, eIfE, eAndV, eOrV, eNotV, eCh, eTup, eLst, eLstM, eCall, eRet, eSeq, eSNil, eIf, eSet, eAsg, ePar, ePar3, eExpr, eFor, eForN, eForC, eGNm, eGNl, eGCs, eGTp, eSq, eAsT, eAsL, eZp, eR1, eR2, oR1, oR2, eLc, eLcN, eLcC, eYes, eWN, eWC, eGx, eGxN, eGxC, eRun, eStart, oAdd, oSub, oNeg, oMul, oMod, oDiv, oLeT, oLeF, oGtT, oGtF, oGeT, oGeF, oLtT, oLtF, oEqT, oEqF, oNeT, oNeF, oEqB, oNeB, oIsN, oIsNotN, iN1, iN2, iN3, oIsNotTT, oTB, oIxT, oIxL, oIxR, at0, at1, at2, at3, at4, at5, at6, atLast, atm1, atm2, atm4, oLenT, oLenL, oIntI, oTupL, oTupT, oListT, oMaxL, oMaxR, rng0, rngS, zipN, zipN2, zipC, eIsi, tyI, tyT, tyN, tyB, kII, kIB, kIT, kIL, kTT, eSetIx, eSl, eNo, ePart, oSl1, eMt, eAppend, eRetF, cellEnd, setEnd, ixm, ix31, ix32, atm3, atm5, toPys_ints, rw3_py, rows_py, oNeR, oNeR0, rw3_below, rows_below, eTruR, eIE1, eIE2, oNeI, oNeL0, oNeL1, oNeL2, kbTF, kbFT, insLt, insEq, insGt, insNil, ssetN, ssetC, eSS, asQT, asQL, asIN, asIC]
/-! ### spans -/
theorem ev_spansA (f g b : Int) (S : Store) (h : 0 < f ∧ f < g ∧ g < 100000) (hS : Sok S = true) : F__law_spans [.tup [], .tup [.int f, .int g], .int b] S = some (.lst [.tup [.int 0, .int f, .int 0], .tup [.int f, .int g, .int 2], .tup [.int g, .non, .int 0]], S) := by
  refine gc_eq (R := [.dead]) ?_ hS rfl
  simp (disch := first | omega | assumption | (simp only [List.all_cons, List.all_nil, r3a, r3b, Bool.and_self]) | (apply SokR; assumption; simp only [List.all_cons, List.all_nil, r3a, r3b, Bool.and_self])) only [B__law_spans, ev_marksA, upB, cntN, cntT, cntF, Option.bind_some, Option.bind_none, Option.map_some, List.length_cons, List.length_nil, List.length_map, List.map_cons, List.map_nil, List.set_cons_zero, List.set_cons_succ, List.cons_append, List.nil_append, List.append_nil, List.replicate_succ, List.replicate_zero, Nat.reduceAdd, Nat.reduceSub, Nat.reduceLeDiff, Nat.reduceLT, Nat.lt_irrefl, Int.reduceMod, Int.reduceBEq, Int.reduceMul, Int.reduceSub, Int.cast_ofNat_Int, Int.reduceToNat, Int.toNat_natCast, if_true, if_false, ite_true, ite_false, Bool.false_eq_true, Bool.true_eq_false, reduceIte, reduceCtorEq, Bool.not_true, Bool.not_false, sizeLine_eq, Nat.zero_add, Int.reduceAdd, Int.reduceNeg, Int.zero_add, beq_self_eq_true, eq_self, dAdd_lst, dAdd_tup, eVar0, eVarS, eC, eNil, eCons, eOp, eUn, eCB, eTst, eTru, eNot, eAnd, eOr, eIfE, eAndV, eOrV, eNotV, eCh, eTup, eLst, eLstM, eCall, eRet, eSeq, eSNil, eIf, eSet, eAsg, ePar, ePar3, eExpr, eFor, eForN, eForC, eGNm, eGNl, eGCs, eGTp, eSq, eAsT, eAsL, eZp, eR1, eR2, oR1, oR2, eLc, eLcN, eLcC, eYes, eWN, eWC, eGx, eGxN, eGxC, eRun, eStart, oAdd, oSub, oNeg, oMul, oMod, oDiv, oLeT, oLeF, oGtT, oGtF, oGeT, oGeF, oLtT, oLtF, oEqT, oEqF, oNeT, oNeF, oEqB, oNeB, oIsN, oIsNotN, iN1, iN2, iN3, oIsNotTT, oTB, oIxT, oIxL, oIxR, at0, at1, at2, at3, at4, at5, at6, atLast, atm1, atm2, atm4, oLenT, oLenL, oIntI, oTupL, oTupT, oListT, oMaxL, oMaxR, rng0, rngS, zipN, zipN2, zipC, eIsi, tyI, tyT, tyN, tyB, kII, kIB, kIT, kIL, kTT, eSetIx, eSl, eNo, ePart, oSl1, eMt, eAppend, eRetF, cellEnd, setEnd, ixm, ix31, ix32, atm3, atm5, toPys_ints, rw3_py, rows_py, oNeR, oNeR0, rw3_below, rows_below, eTruR, eIE1, eIE2, oNeI, oNeL0, oNeL1, oNeL2, kbTF, kbFT, insLt, insEq, insGt, insNil, ssetN, ssetC, eSS, asQT, asQL, asIN, asIC]
end K51

namespace K51
open PySem PySem.Spec PyProof.Rows L2 DL
theorem upB_t {xs : List Int} {t : Int} (h : cnt xs t % 2 = 1) : upB xs t = true := by
  unfold upB
  rw [show ((cnt xs t : Nat) : Int) % 2 = 1 by omega]
  rfl
theorem upB_f {xs : List Int} {t : Int} (h : cnt xs t % 2 = 0) : upB xs t = false := by
  unfold upB
  rw [show ((cnt xs t : Nat) : Int) % 2 = 0 by omega]
  rfl
theorem jUp0 {t : Int} {S : Store} : F__law_is_up [.tup [], .int t] S = some (.bl false, S) := ev_up0 t S
theorem jUp2 {f g t : Int} {S : Store} {p : Bool} (h : upB [f, g] t = p) : F__law_is_up [.tup [.int f, .int g], .int t] S = some (.bl p, S) := by rw [← h]; exact ev_up2 f g t S
theorem jUp4 {f g h i t : Int} {S : Store} {p : Bool} (hh : upB [f, g, h, i] t = p) : F__law_is_up [.tup [.int f, .int g, .int h, .int i], .int t] S = some (.bl p, S) := by rw [← hh]; exact ev_up4 f g h i t S
theorem jCl0 {t : Int} {S : Store} : F_is_closed_at [.tup [], .int t] S = some (.bl false, S) := ev_closed0 t S
theorem jCl2 {f g t : Int} {S : Store} {p : Bool} (h : upB [f, g] t = p) : F_is_closed_at [.tup [.int f, .int g], .int t] S = some (.bl p, S) := by rw [← h]; exact ev_closed2 f g t S
theorem jCl4 {f g h i t : Int} {S : Store} {p : Bool} (hh : upB [f, g, h, i] t = p) : F_is_closed_at [.tup [.int f, .int g, .int h, .int i], .int t] S = some (.bl p, S) := by rw [← hh]; exact ev_closed4 f g h i t S
theorem ev_farA (f g b n q : Int) (S : Store) (h : 0 < f ∧ f < g ∧ g < 100000 ∧ g - f ≤ n) (hS : Sok S = true) : F__law_fits_far [.tup [], .tup [.int f, .int g], .tup [.int b, .int n, .int q]] S = some (.bl true, S) := by
  have e := ev_spansA f g b S ⟨h.1, h.2.1, h.2.2.1⟩ hS
  repeat' (first
    | (with_reducible exact e)
    | (with_reducible apply run__law_fits_far)
    | (with_reducible exact jSet0)
    | (with_reducible apply jSetS)
    | ((with_reducible apply jVar); rfl)
    | (with_reducible apply jOp)
    | (with_reducible exact eC)
    | (with_reducible apply jCons)
    | (with_reducible exact jNil)
    | (with_reducible apply jSeq)
    | (with_reducible apply jKnx)
    | (with_reducible exact jSt0)
    | (with_reducible apply jStN)
    | (with_reducible apply jStC)
    | ((with_reducible refine jIteT ?hp ?_); case hp => rfl)
    | ((with_reducible refine jIteF ?hp ?_); case hp => exact Bool.false_ne_true)
    | ((with_reducible refine jIteF ?hp ?_); case hp => decide)
    | (with_reducible exact jApN)
    | (with_reducible apply jAppend)
    | (with_reducible apply jApC)
    | (with_reducible exact jGNl)
    | (with_reducible apply jGNm)
    | (with_reducible apply jIxT)
    | (with_reducible apply jIxL)
    | (with_reducible apply jIxR)
    | (with_reducible exact oAdd)
    | (with_reducible exact oTB)
    | (with_reducible apply jTst)
    | (with_reducible apply jIf)
    | (with_reducible apply jIfE)
    | (with_reducible apply jAnd)
    | (with_reducible apply jAndV)
    | (with_reducible apply jCall)
    | (with_reducible apply jSet)
    | (with_reducible exact cellEnd)
    | (with_reducible exact jForN)
    | (with_reducible apply jFor)
    | (with_reducible apply jForC)
    | (with_reducible apply jCB)
    | (with_reducible apply jFnx)
    | (with_reducible exact jSNil)
    | (with_reducible apply jGCs)
    | (with_reducible exact jRN)
    | (with_reducible apply jR1)
    | (with_reducible apply jR2)
    | (with_reducible apply jRS)
    | (with_reducible exact jRetKL)
    | (with_reducible apply jRet)
    | (with_reducible apply jRetF)
    | (with_reducible apply jRetKR)
    | (with_reducible exact oEqB)
    | ((with_reducible refine oEqT ?_); omega)
    | ((with_reducible refine oEqF ?_); omega)
    | (with_reducible exact jTruR0)
    | (with_reducible exact jTruR1)
    | (with_reducible apply jTru)
    | (with_reducible apply jLst)
    | (with_reducible apply jLstM)
    | (with_reducible apply jPar)
    | (with_reducible apply jPar3)
    | (with_reducible apply jPart)
    | (with_reducible apply jIsi)
    | ((with_reducible show atI _ _ = _); rfl)
    | ((with_reducible show Nat.ble _ _ = true); rfl)
    | ((with_reducible refine oMod ?_); omega)
    | (with_reducible apply jAddR)
    | (with_reducible apply jAddL)
    | (with_reducible apply jAddT)
    | ((with_reducible refine oLeT ?_); omega)
    | ((with_reducible refine oLeF ?_); omega)
    | (with_reducible exact jYes)
    | (with_reducible exact jAsN)
    | (with_reducible apply jAsg)
    | (with_reducible apply jAsC)
    | (with_reducible apply jSetLast)
    | (with_reducible apply jSetC)
    | (with_reducible exact jWN)
    | (with_reducible apply jWC)
    | (with_reducible exact jNo)
    | (with_reducible apply jNot)
    | (with_reducible apply jNotV)
    | (with_reducible exact setEnd)
    | (with_reducible exact tyI)
    | (with_reducible exact oIsN)
    | (with_reducible exact oIsNotN)
    | (with_reducible exact oIsNotTT)
    | ((with_reducible refine oMul ?_); omega)
    | ((with_reducible apply jInsGt); omega)
    | (with_reducible exact neT2)
    | (with_reducible exact oNeg)
    | (with_reducible exact oNeB)
    | (with_reducible exact oNeL0)
    | (with_reducible exact oNeL1)
    | (with_reducible exact oNeL2)
    | (with_reducible exact oNeR0)
    | ((with_reducible refine oNeT ?_); omega)
    | ((with_reducible refine oNeF ?_); omega)
    | ((with_reducible refine jNeRT ?_); rfl)
    | (with_reducible apply jSq)
    | (with_reducible apply jSqF)
    | (with_reducible apply jUn)
    | (with_reducible exact jMpN)
    | (with_reducible apply jMpC)
    | (with_reducible apply jGTp)
    | ((with_reducible refine oLtT ?_); omega)
    | ((with_reducible refine oLtF ?_); omega)
    | (with_reducible apply jTup)
    | (with_reducible exact oIntI)
    | (with_reducible apply jOr)
    | (with_reducible apply jOrV)
    | (with_reducible exact jLcN)
    | (with_reducible exact jLc2N)
    | (with_reducible apply jLc)
    | (with_reducible apply jLcC)
    | (with_reducible apply jLcK)
    | (with_reducible apply jLc2)
    | (with_reducible apply jLc2C)
    | (with_reducible exact atLast)
    | (with_reducible apply jCh)
    | (with_reducible apply jChK)
    | (with_reducible apply jExpr)
    | (with_reducible exact oSub)
    | (with_reducible exact insNil)
    | ((with_reducible refine insLt ?_); omega)
    | ((with_reducible refine insEq ?_); omega)
    | (with_reducible exact eAsT)
    | (with_reducible exact eAsL)
    | (with_reducible exact kII)
    | (with_reducible exact kIB)
    | (with_reducible exact jGxN)
    | (with_reducible exact jGxM)
    | (with_reducible apply jGx)
    | (with_reducible apply jGxC)
    | (with_reducible apply jGxK)
    | (with_reducible exact oListT)
    | (with_reducible apply jLenT)
    | (with_reducible apply jLenL)
    | (with_reducible apply jLenR)
    | ((with_reducible refine oGtT ?_); omega)
    | ((with_reducible refine oGtF ?_); omega)
    | (with_reducible exact tyT)
    | (with_reducible exact kTT)
    | (with_reducible exact jKret)
    | (with_reducible exact jZN)
    | (with_reducible exact jZN2)
    | (with_reducible apply jZp)
    | (with_reducible apply jZC)
    | (with_reducible exact ssetN)
    | (with_reducible apply jSS)
    | ((with_reducible refine oGeT ?_); omega)
    | ((with_reducible refine oGeF ?_); omega)
    | (with_reducible exact asQT)
    | (with_reducible exact asQL)
    | (with_reducible apply jSlT)
    | ((with_reducible refine oDiv ?_); omega)
    | (with_reducible exact jFret)
    | (with_reducible exact iN1)
    | (with_reducible exact iN2)
    | (with_reducible exact iN3)
    | (with_reducible exact oTupL)
    | (with_reducible exact oTupT)
    | (with_reducible exact tyN)
    | (with_reducible exact tyB)
    | (with_reducible exact kIT)
    | (with_reducible exact kIL)
    | ((with_reducible refine oMaxL ?_); omega)
    | ((with_reducible refine oMaxR ?_); omega)
    | (show Int.toNat _ = _; (try simp only [List.length_cons, List.length_nil, Nat.zero_add, Nat.reduceAdd, Int.cast_ofNat_Int, Int.reduceToNat, Int.reduceSub, Int.toNat_natCast]); (try rfl); done)
    | (show List.length _ = _; (try simp only [List.length_cons, List.length_nil, List.length_append, List.cons_append, List.nil_append, Nat.zero_add, Nat.reduceAdd]); (try rfl); done)
    | (show Nat.ble _ _ = true; rfl)
    | (show atI _ _ = _; rfl)
    | (show one dAll _ _ = _; rfl)
    | (with_reducible rfl)
    | omega
    | with_reducible assumption)
theorem ev_sigA (f g : Int) (S : Store) (h : 0 ≤ f ∧ f < g ∧ g ≤ 1000000) : F_is_signal [.tup [.int f, .int g]] S = some (.bl true, S) := by
  repeat' (first
    | (with_reducible apply run_is_signal)
    | (with_reducible apply run_is_row)
    | (with_reducible apply run_is_number)
    | (with_reducible apply run_are_rising)
    | (with_reducible exact jSet0)
    | (with_reducible apply jSetS)
    | ((with_reducible apply jVar); rfl)
    | (with_reducible apply jOp)
    | (with_reducible exact eC)
    | (with_reducible apply jCons)
    | (with_reducible exact jNil)
    | (with_reducible apply jSeq)
    | (with_reducible apply jKnx)
    | (with_reducible exact jSt0)
    | (with_reducible apply jStN)
    | (with_reducible apply jStC)
    | ((with_reducible refine jIteT ?hp ?_); case hp => rfl)
    | ((with_reducible refine jIteF ?hp ?_); case hp => exact Bool.false_ne_true)
    | ((with_reducible refine jIteF ?hp ?_); case hp => decide)
    | (with_reducible exact jApN)
    | (with_reducible apply jAppend)
    | (with_reducible apply jApC)
    | (with_reducible exact jGNl)
    | (with_reducible apply jGNm)
    | (with_reducible apply jIxT)
    | (with_reducible apply jIxL)
    | (with_reducible apply jIxR)
    | (with_reducible exact oAdd)
    | (with_reducible exact oTB)
    | (with_reducible apply jTst)
    | (with_reducible apply jIf)
    | (with_reducible apply jIfE)
    | (with_reducible apply jAnd)
    | (with_reducible apply jAndV)
    | (with_reducible apply jCall)
    | (with_reducible apply jSet)
    | (with_reducible exact cellEnd)
    | (with_reducible exact jForN)
    | (with_reducible apply jFor)
    | (with_reducible apply jForC)
    | (with_reducible apply jCB)
    | (with_reducible apply jFnx)
    | (with_reducible exact jSNil)
    | (with_reducible apply jGCs)
    | (with_reducible exact jRN)
    | (with_reducible apply jR1)
    | (with_reducible apply jR2)
    | (with_reducible apply jRS)
    | (with_reducible exact jRetKL)
    | (with_reducible apply jRet)
    | (with_reducible apply jRetF)
    | (with_reducible apply jRetKR)
    | (with_reducible exact oEqB)
    | ((with_reducible refine oEqT ?_); omega)
    | ((with_reducible refine oEqF ?_); omega)
    | (with_reducible exact jTruR0)
    | (with_reducible exact jTruR1)
    | (with_reducible apply jTru)
    | (with_reducible apply jLst)
    | (with_reducible apply jLstM)
    | (with_reducible apply jPar)
    | (with_reducible apply jPar3)
    | (with_reducible apply jPart)
    | (with_reducible apply jIsi)
    | ((with_reducible show atI _ _ = _); rfl)
    | ((with_reducible show Nat.ble _ _ = true); rfl)
    | ((with_reducible refine oMod ?_); omega)
    | (with_reducible apply jAddR)
    | (with_reducible apply jAddL)
    | (with_reducible apply jAddT)
    | ((with_reducible refine oLeT ?_); omega)
    | ((with_reducible refine oLeF ?_); omega)
    | (with_reducible exact jYes)
    | (with_reducible exact jAsN)
    | (with_reducible apply jAsg)
    | (with_reducible apply jAsC)
    | (with_reducible apply jSetLast)
    | (with_reducible apply jSetC)
    | (with_reducible exact jWN)
    | (with_reducible apply jWC)
    | (with_reducible exact jNo)
    | (with_reducible apply jNot)
    | (with_reducible apply jNotV)
    | (with_reducible exact setEnd)
    | (with_reducible exact tyI)
    | (with_reducible exact oIsN)
    | (with_reducible exact oIsNotN)
    | (with_reducible exact oIsNotTT)
    | ((with_reducible refine oMul ?_); omega)
    | ((with_reducible apply jInsGt); omega)
    | (with_reducible exact neT2)
    | (with_reducible exact oNeg)
    | (with_reducible exact oNeB)
    | (with_reducible exact oNeL0)
    | (with_reducible exact oNeL1)
    | (with_reducible exact oNeL2)
    | (with_reducible exact oNeR0)
    | ((with_reducible refine oNeT ?_); omega)
    | ((with_reducible refine oNeF ?_); omega)
    | ((with_reducible refine jNeRT ?_); rfl)
    | (with_reducible apply jSq)
    | (with_reducible apply jSqF)
    | (with_reducible apply jUn)
    | (with_reducible exact jMpN)
    | (with_reducible apply jMpC)
    | (with_reducible apply jGTp)
    | ((with_reducible refine oLtT ?_); omega)
    | ((with_reducible refine oLtF ?_); omega)
    | (with_reducible apply jTup)
    | (with_reducible exact oIntI)
    | (with_reducible apply jOr)
    | (with_reducible apply jOrV)
    | (with_reducible exact jLcN)
    | (with_reducible exact jLc2N)
    | (with_reducible apply jLc)
    | (with_reducible apply jLcC)
    | (with_reducible apply jLcK)
    | (with_reducible apply jLc2)
    | (with_reducible apply jLc2C)
    | (with_reducible exact atLast)
    | (with_reducible apply jCh)
    | (with_reducible apply jChK)
    | (with_reducible apply jExpr)
    | (with_reducible exact oSub)
    | (with_reducible exact insNil)
    | ((with_reducible refine insLt ?_); omega)
    | ((with_reducible refine insEq ?_); omega)
    | (with_reducible exact eAsT)
    | (with_reducible exact eAsL)
    | (with_reducible exact kII)
    | (with_reducible exact kIB)
    | (with_reducible exact jGxN)
    | (with_reducible exact jGxM)
    | (with_reducible apply jGx)
    | (with_reducible apply jGxC)
    | (with_reducible apply jGxK)
    | (with_reducible exact oListT)
    | (with_reducible apply jLenT)
    | (with_reducible apply jLenL)
    | (with_reducible apply jLenR)
    | ((with_reducible refine oGtT ?_); omega)
    | ((with_reducible refine oGtF ?_); omega)
    | (with_reducible exact tyT)
    | (with_reducible exact kTT)
    | (with_reducible exact jKret)
    | (with_reducible exact jZN)
    | (with_reducible exact jZN2)
    | (with_reducible apply jZp)
    | (with_reducible apply jZC)
    | (with_reducible exact ssetN)
    | (with_reducible apply jSS)
    | ((with_reducible refine oGeT ?_); omega)
    | ((with_reducible refine oGeF ?_); omega)
    | (with_reducible exact asQT)
    | (with_reducible exact asQL)
    | (with_reducible apply jSlT)
    | ((with_reducible refine oDiv ?_); omega)
    | (with_reducible exact jFret)
    | (with_reducible exact iN1)
    | (with_reducible exact iN2)
    | (with_reducible exact iN3)
    | (with_reducible exact oTupL)
    | (with_reducible exact oTupT)
    | (with_reducible exact tyN)
    | (with_reducible exact tyB)
    | (with_reducible exact kIT)
    | (with_reducible exact kIL)
    | ((with_reducible refine oMaxL ?_); omega)
    | ((with_reducible refine oMaxR ?_); omega)
    | (show Int.toNat _ = _; (try simp only [List.length_cons, List.length_nil, Nat.zero_add, Nat.reduceAdd, Int.cast_ofNat_Int, Int.reduceToNat, Int.reduceSub, Int.toNat_natCast]); (try rfl); done)
    | (show List.length _ = _; (try simp only [List.length_cons, List.length_nil, List.length_append, List.cons_append, List.nil_append, Nat.zero_add, Nat.reduceAdd]); (try rfl); done)
    | (show Nat.ble _ _ = true; rfl)
    | (show atI _ _ = _; rfl)
    | (show one dAll _ _ = _; rfl)
    | (with_reducible rfl)
    | omega
    | with_reducible assumption)
theorem ev_sigB (f g h i : Int) (S : Store) (hh : 0 ≤ f ∧ f < g ∧ g < h ∧ h < i ∧ i ≤ 1000000) : F_is_signal [.tup [.int f, .int g, .int h, .int i]] S = some (.bl true, S) := by
  repeat' (first
    | (with_reducible apply run_is_signal)
    | (with_reducible apply run_is_row)
    | (with_reducible apply run_is_number)
    | (with_reducible apply run_are_rising)
    | (with_reducible exact jSet0)
    | (with_reducible apply jSetS)
    | ((with_reducible apply jVar); rfl)
    | (with_reducible apply jOp)
    | (with_reducible exact eC)
    | (with_reducible apply jCons)
    | (with_reducible exact jNil)
    | (with_reducible apply jSeq)
    | (with_reducible apply jKnx)
    | (with_reducible exact jSt0)
    | (with_reducible apply jStN)
    | (with_reducible apply jStC)
    | ((with_reducible refine jIteT ?hp ?_); case hp => rfl)
    | ((with_reducible refine jIteF ?hp ?_); case hp => exact Bool.false_ne_true)
    | ((with_reducible refine jIteF ?hp ?_); case hp => decide)
    | (with_reducible exact jApN)
    | (with_reducible apply jAppend)
    | (with_reducible apply jApC)
    | (with_reducible exact jGNl)
    | (with_reducible apply jGNm)
    | (with_reducible apply jIxT)
    | (with_reducible apply jIxL)
    | (with_reducible apply jIxR)
    | (with_reducible exact oAdd)
    | (with_reducible exact oTB)
    | (with_reducible apply jTst)
    | (with_reducible apply jIf)
    | (with_reducible apply jIfE)
    | (with_reducible apply jAnd)
    | (with_reducible apply jAndV)
    | (with_reducible apply jCall)
    | (with_reducible apply jSet)
    | (with_reducible exact cellEnd)
    | (with_reducible exact jForN)
    | (with_reducible apply jFor)
    | (with_reducible apply jForC)
    | (with_reducible apply jCB)
    | (with_reducible apply jFnx)
    | (with_reducible exact jSNil)
    | (with_reducible apply jGCs)
    | (with_reducible exact jRN)
    | (with_reducible apply jR1)
    | (with_reducible apply jR2)
    | (with_reducible apply jRS)
    | (with_reducible exact jRetKL)
    | (with_reducible apply jRet)
    | (with_reducible apply jRetF)
    | (with_reducible apply jRetKR)
    | (with_reducible exact oEqB)
    | ((with_reducible refine oEqT ?_); omega)
    | ((with_reducible refine oEqF ?_); omega)
    | (with_reducible exact jTruR0)
    | (with_reducible exact jTruR1)
    | (with_reducible apply jTru)
    | (with_reducible apply jLst)
    | (with_reducible apply jLstM)
    | (with_reducible apply jPar)
    | (with_reducible apply jPar3)
    | (with_reducible apply jPart)
    | (with_reducible apply jIsi)
    | ((with_reducible show atI _ _ = _); rfl)
    | ((with_reducible show Nat.ble _ _ = true); rfl)
    | ((with_reducible refine oMod ?_); omega)
    | (with_reducible apply jAddR)
    | (with_reducible apply jAddL)
    | (with_reducible apply jAddT)
    | ((with_reducible refine oLeT ?_); omega)
    | ((with_reducible refine oLeF ?_); omega)
    | (with_reducible exact jYes)
    | (with_reducible exact jAsN)
    | (with_reducible apply jAsg)
    | (with_reducible apply jAsC)
    | (with_reducible apply jSetLast)
    | (with_reducible apply jSetC)
    | (with_reducible exact jWN)
    | (with_reducible apply jWC)
    | (with_reducible exact jNo)
    | (with_reducible apply jNot)
    | (with_reducible apply jNotV)
    | (with_reducible exact setEnd)
    | (with_reducible exact tyI)
    | (with_reducible exact oIsN)
    | (with_reducible exact oIsNotN)
    | (with_reducible exact oIsNotTT)
    | ((with_reducible refine oMul ?_); omega)
    | ((with_reducible apply jInsGt); omega)
    | (with_reducible exact neT2)
    | (with_reducible exact oNeg)
    | (with_reducible exact oNeB)
    | (with_reducible exact oNeL0)
    | (with_reducible exact oNeL1)
    | (with_reducible exact oNeL2)
    | (with_reducible exact oNeR0)
    | ((with_reducible refine oNeT ?_); omega)
    | ((with_reducible refine oNeF ?_); omega)
    | ((with_reducible refine jNeRT ?_); rfl)
    | (with_reducible apply jSq)
    | (with_reducible apply jSqF)
    | (with_reducible apply jUn)
    | (with_reducible exact jMpN)
    | (with_reducible apply jMpC)
    | (with_reducible apply jGTp)
    | ((with_reducible refine oLtT ?_); omega)
    | ((with_reducible refine oLtF ?_); omega)
    | (with_reducible apply jTup)
    | (with_reducible exact oIntI)
    | (with_reducible apply jOr)
    | (with_reducible apply jOrV)
    | (with_reducible exact jLcN)
    | (with_reducible exact jLc2N)
    | (with_reducible apply jLc)
    | (with_reducible apply jLcC)
    | (with_reducible apply jLcK)
    | (with_reducible apply jLc2)
    | (with_reducible apply jLc2C)
    | (with_reducible exact atLast)
    | (with_reducible apply jCh)
    | (with_reducible apply jChK)
    | (with_reducible apply jExpr)
    | (with_reducible exact oSub)
    | (with_reducible exact insNil)
    | ((with_reducible refine insLt ?_); omega)
    | ((with_reducible refine insEq ?_); omega)
    | (with_reducible exact eAsT)
    | (with_reducible exact eAsL)
    | (with_reducible exact kII)
    | (with_reducible exact kIB)
    | (with_reducible exact jGxN)
    | (with_reducible exact jGxM)
    | (with_reducible apply jGx)
    | (with_reducible apply jGxC)
    | (with_reducible apply jGxK)
    | (with_reducible exact oListT)
    | (with_reducible apply jLenT)
    | (with_reducible apply jLenL)
    | (with_reducible apply jLenR)
    | ((with_reducible refine oGtT ?_); omega)
    | ((with_reducible refine oGtF ?_); omega)
    | (with_reducible exact tyT)
    | (with_reducible exact kTT)
    | (with_reducible exact jKret)
    | (with_reducible exact jZN)
    | (with_reducible exact jZN2)
    | (with_reducible apply jZp)
    | (with_reducible apply jZC)
    | (with_reducible exact ssetN)
    | (with_reducible apply jSS)
    | ((with_reducible refine oGeT ?_); omega)
    | ((with_reducible refine oGeF ?_); omega)
    | (with_reducible exact asQT)
    | (with_reducible exact asQL)
    | (with_reducible apply jSlT)
    | ((with_reducible refine oDiv ?_); omega)
    | (with_reducible exact jFret)
    | (with_reducible exact iN1)
    | (with_reducible exact iN2)
    | (with_reducible exact iN3)
    | (with_reducible exact oTupL)
    | (with_reducible exact oTupT)
    | (with_reducible exact tyN)
    | (with_reducible exact tyB)
    | (with_reducible exact kIT)
    | (with_reducible exact kIL)
    | ((with_reducible refine oMaxL ?_); omega)
    | ((with_reducible refine oMaxR ?_); omega)
    | (show Int.toNat _ = _; (try simp only [List.length_cons, List.length_nil, Nat.zero_add, Nat.reduceAdd, Int.cast_ofNat_Int, Int.reduceToNat, Int.reduceSub, Int.toNat_natCast]); (try rfl); done)
    | (show List.length _ = _; (try simp only [List.length_cons, List.length_nil, List.length_append, List.cons_append, List.nil_append, Nat.zero_add, Nat.reduceAdd]); (try rfl); done)
    | (show Nat.ble _ _ = true; rfl)
    | (show atI _ _ = _; rfl)
    | (show one dAll _ _ = _; rfl)
    | (with_reducible rfl)
    | omega
    | with_reducible assumption)
end K51

namespace K51
open PySem PySem.Spec PyProof.Rows L2 DL
theorem ev_spansB (f g h i b : Int) (S : Store) (hh : 0 < f ∧ f < h ∧ h < i ∧ i ≤ f + b ∧ f + b < g ∧ g + b < 100000) (hS : Sok S = true) : ∃ r, F__law_spans [.tup [.int f, .int g], .tup [.int f, .int h, .int i, .int g], .int b] S =
    some (.lst r, S) ∧ r = [.tup [.int 0, .int f, .int 0], .tup [.int f, .int (f + b), .int 1], .tup [.int (f + b), .int g, .int 0], .tup [.int g, .int (g + b), .int 1], .tup [.int (g + b), .non, .int 0]] := by
  have u0 : upB [f, h, i, g] 0 = upB [f, g] 0 := by simp (disch := omega) only [upB, cntN, cntT, cntF]
  have u1 : upB [f, h, i, g] (f + b) = upB [f, g] (f + b) := by simp (disch := omega) only [upB, cntN, cntT, cntF, Nat.zero_add, Nat.reduceAdd, Int.cast_ofNat_Int, Int.reduceMod, Int.reduceBEq]
  have u2 : upB [f, h, i, g] (g + b) = upB [f, g] (g + b) := by simp (disch := omega) only [upB, cntN, cntT, cntF, Nat.zero_add, Nat.reduceAdd, Int.cast_ofNat_Int, Int.reduceMod, Int.reduceBEq]
  rcases Int.lt_or_eq_of_le hh.2.2.2.1 with hi | hi
  · refine ⟨_, gc_eq (R := [.dead]) (run__law_spans rfl (by repeat' (first
    | (with_reducible exact jSet0)
    | (with_reducible apply jSetS)
    | ((with_reducible apply jVar); rfl)
    | (with_reducible apply jOp)
    | (with_reducible exact eC)
    | (with_reducible apply jCons)
    | (with_reducible exact jNil)
    | (with_reducible apply jSeq)
    | (with_reducible apply jKnx)
    | (with_reducible exact jSt0)
    | (with_reducible apply jStN)
    | (with_reducible apply jStC)
    | ((with_reducible refine jIteT ?hp ?_); case hp => rfl)
    | ((with_reducible refine jIteF ?hp ?_); case hp => exact Bool.false_ne_true)
    | ((with_reducible refine jIteF ?hp ?_); case hp => decide)
    | (with_reducible exact jApN)
    | (with_reducible apply jAppend)
    | (with_reducible apply jApC)
    | (with_reducible exact jGNl)
    | (with_reducible apply jGNm)
    | (with_reducible apply jIxT)
    | (with_reducible apply jIxL)
    | (with_reducible apply jIxR)
    | (with_reducible exact oAdd)
    | (with_reducible exact oTB)
    | (with_reducible apply jTst)
    | (with_reducible apply jIf)
    | (with_reducible apply jIfE)
    | (with_reducible apply jAnd)
    | (with_reducible apply jAndV)
    | (with_reducible apply jCall)
    | (with_reducible apply jSet)
    | (with_reducible exact cellEnd)
    | (with_reducible exact jForN)
    | (with_reducible apply jFor)
    | (with_reducible apply jForC)
    | (with_reducible apply jCB)
    | (with_reducible apply jFnx)
    | (with_reducible exact jSNil)
    | (with_reducible apply jGCs)
    | (with_reducible exact jRN)
    | (with_reducible apply jR1)
    | (with_reducible apply jR2)
    | (with_reducible apply jRS)
    | (with_reducible exact jRetKL)
    | (with_reducible apply jRet)
    | (with_reducible apply jRetF)
    | (with_reducible apply jRetKR)
    | (with_reducible exact oEqB)
    | ((with_reducible refine oEqT ?_); omega)
    | ((with_reducible refine oEqF ?_); omega)
    | (with_reducible exact jTruR0)
    | (with_reducible exact jTruR1)
    | (with_reducible apply jTru)
    | (with_reducible apply jLst)
    | (with_reducible apply jLstM)
    | (with_reducible apply jPar)
    | (with_reducible apply jPar3)
    | (with_reducible apply jPart)
    | (with_reducible apply jIsi)
    | ((with_reducible show atI _ _ = _); rfl)
    | ((with_reducible show Nat.ble _ _ = true); rfl)
    | ((with_reducible refine oMod ?_); omega)
    | (with_reducible apply jAddR)
    | (with_reducible apply jAddL)
    | (with_reducible apply jAddT)
    | ((with_reducible refine oLeT ?_); omega)
    | ((with_reducible refine oLeF ?_); omega)
    | (with_reducible exact jYes)
    | (with_reducible exact jAsN)
    | (with_reducible apply jAsg)
    | (with_reducible apply jAsC)
    | (with_reducible apply jSetLast)
    | (with_reducible apply jSetC)
    | (with_reducible exact jWN)
    | (with_reducible apply jWC)
    | (with_reducible exact jNo)
    | (with_reducible apply jNot)
    | (with_reducible apply jNotV)
    | (with_reducible exact setEnd)
    | (with_reducible exact tyI)
    | (with_reducible exact oIsN)
    | (with_reducible exact oIsNotN)
    | (with_reducible exact oIsNotTT)
    | ((with_reducible refine oMul ?_); omega)
    | ((with_reducible apply jInsGt); omega)
    | (with_reducible exact neT2)
    | (with_reducible exact oNeg)
    | (with_reducible exact oNeB)
    | (with_reducible exact oNeL0)
    | (with_reducible exact oNeL1)
    | (with_reducible exact oNeL2)
    | (with_reducible exact oNeR0)
    | ((with_reducible refine oNeT ?_); omega)
    | ((with_reducible refine oNeF ?_); omega)
    | ((with_reducible refine jNeRT ?_); rfl)
    | (with_reducible apply jSq)
    | (with_reducible apply jSqF)
    | (with_reducible apply jUn)
    | (with_reducible exact jMpN)
    | (with_reducible apply jMpC)
    | (with_reducible apply jGTp)
    | ((with_reducible refine oLtT ?_); omega)
    | ((with_reducible refine oLtF ?_); omega)
    | (with_reducible apply jTup)
    | (with_reducible exact oIntI)
    | (with_reducible apply jOr)
    | (with_reducible apply jOrV)
    | (with_reducible exact jLcN)
    | (with_reducible exact jLc2N)
    | (with_reducible apply jLc)
    | (with_reducible apply jLcC)
    | (with_reducible apply jLcK)
    | (with_reducible apply jLc2)
    | (with_reducible apply jLc2C)
    | (with_reducible exact atLast)
    | (with_reducible apply jCh)
    | (with_reducible apply jChK)
    | (with_reducible apply jExpr)
    | (with_reducible exact oSub)
    | (with_reducible exact insNil)
    | ((with_reducible refine insLt ?_); omega)
    | ((with_reducible refine insEq ?_); omega)
    | (with_reducible exact eAsT)
    | (with_reducible exact eAsL)
    | (with_reducible exact kII)
    | (with_reducible exact kIB)
    | (with_reducible exact jGxN)
    | (with_reducible exact jGxM)
    | (with_reducible apply jGx)
    | (with_reducible apply jGxC)
    | (with_reducible apply jGxK)
    | (with_reducible exact oListT)
    | (with_reducible apply jLenT)
    | (with_reducible apply jLenL)
    | (with_reducible apply jLenR)
    | ((with_reducible refine oGtT ?_); omega)
    | ((with_reducible refine oGtF ?_); omega)
    | (with_reducible exact tyT)
    | (with_reducible exact kTT)
    | (with_reducible exact jKret)
    | (with_reducible exact jZN)
    | (with_reducible exact jZN2)
    | (with_reducible apply jZp)
    | (with_reducible apply jZC)
    | (with_reducible exact ssetN)
    | (with_reducible apply jSS)
    | ((with_reducible refine oGeT ?_); omega)
    | ((with_reducible refine oGeF ?_); omega)
    | (with_reducible exact asQT)
    | (with_reducible exact asQL)
    | (with_reducible apply jSlT)
    | ((with_reducible refine oDiv ?_); omega)
    | (with_reducible exact jFret)
    | (with_reducible exact iN1)
    | (with_reducible exact iN2)
    | (with_reducible exact iN3)
    | (with_reducible exact oTupL)
    | (with_reducible exact oTupT)
    | (with_reducible exact tyN)
    | (with_reducible exact tyB)
    | (with_reducible exact kIT)
    | (with_reducible exact kIL)
    | ((with_reducible refine oMaxL ?_); omega)
    | ((with_reducible refine oMaxR ?_); omega)
    | (show Int.toNat _ = _; (try simp only [List.length_cons, List.length_nil, Nat.zero_add, Nat.reduceAdd, Int.cast_ofNat_Int, Int.reduceToNat, Int.reduceSub, Int.toNat_natCast]); (try rfl); done)
    | (show List.length _ = _; (try simp only [List.length_cons, List.length_nil, List.length_append, List.cons_append, List.nil_append, Nat.zero_add, Nat.reduceAdd]); (try rfl); done)
    | (show Nat.ble _ _ = true; rfl)
    | (show atI _ _ = _; rfl)
    | (show one dAll _ _ = _; rfl)
    | (with_reducible rfl)
    | omega
    | with_reducible assumption)) (by repeat' (first
    | ((with_reducible apply ev_marksB1) <;> (first | omega | assumption | (apply SokR; assumption; rfl)))
    | ((with_reducible apply ev_marksB2) <;> (first | omega | assumption | (apply SokR; assumption; rfl)))
    | ((with_reducible apply ev_marksB0) <;> (first | omega | assumption | (apply SokR; assumption; rfl)))
    | (with_reducible exact jSet0)
    | (with_reducible apply jSetS)
    | ((with_reducible apply jVar); rfl)
    | (with_reducible apply jOp)
    | (with_reducible exact eC)
    | (with_reducible apply jCons)
    | (with_reducible exact jNil)
    | (with_reducible apply jSeq)
    | (with_reducible apply jKnx)
    | (with_reducible exact jSt0)
    | (with_reducible apply jStN)
    | (with_reducible apply jStC)
    | ((with_reducible refine jIteT ?hp ?_); case hp => rfl)
    | ((with_reducible refine jIteF ?hp ?_); case hp => exact Bool.false_ne_true)
    | ((with_reducible refine jIteF ?hp ?_); case hp => decide)
    | (with_reducible exact jApN)
    | (with_reducible apply jAppend)
    | (with_reducible apply jApC)
    | (with_reducible exact jGNl)
    | (with_reducible apply jGNm)
    | (with_reducible apply jIxT)
    | (with_reducible apply jIxL)
    | (with_reducible apply jIxR)
    | (with_reducible exact oAdd)
    | (with_reducible exact oTB)
    | (with_reducible apply jTst)
    | (with_reducible apply jIf)
    | (with_reducible apply jIfE)
    | (with_reducible apply jAnd)
    | (with_reducible apply jAndV)
    | (with_reducible apply jCall)
    | (with_reducible apply jSet)
    | (with_reducible exact cellEnd)
    | (with_reducible exact jForN)
    | (with_reducible apply jFor)
    | (with_reducible apply jForC)
    | (with_reducible apply jCB)
    | (with_reducible apply jFnx)
    | (with_reducible exact jSNil)
    | (with_reducible apply jGCs)
    | (with_reducible exact jRN)
    | (with_reducible apply jR1)
    | (with_reducible apply jR2)
    | (with_reducible apply jRS)
    | (with_reducible exact jRetKL)
    | (with_reducible apply jRet)
    | (with_reducible apply jRetF)
    | (with_reducible apply jRetKR)
    | (with_reducible exact oEqB)
    | ((with_reducible refine oEqT ?_); omega)
    | ((with_reducible refine oEqF ?_); omega)
    | (with_reducible exact jTruR0)
    | (with_reducible exact jTruR1)
    | (with_reducible apply jTru)
    | (with_reducible apply jLst)
    | (with_reducible apply jLstM)
    | (with_reducible apply jPar)
    | (with_reducible apply jPar3)
    | (with_reducible apply jPart)
    | (with_reducible apply jIsi)
    | ((with_reducible show atI _ _ = _); rfl)
    | ((with_reducible show Nat.ble _ _ = true); rfl)
    | ((with_reducible refine oMod ?_); omega)
    | (with_reducible apply jAddR)
    | (with_reducible apply jAddL)
    | (with_reducible apply jAddT)
    | ((with_reducible refine oLeT ?_); omega)
    | ((with_reducible refine oLeF ?_); omega)
    | (with_reducible exact jYes)
    | (with_reducible exact jAsN)
    | (with_reducible apply jAsg)
    | (with_reducible apply jAsC)
    | (with_reducible apply jSetLast)
    | (with_reducible apply jSetC)
    | (with_reducible exact jWN)
    | (with_reducible apply jWC)
    | (with_reducible exact jNo)
    | (with_reducible apply jNot)
    | (with_reducible apply jNotV)
    | (with_reducible exact setEnd)
    | (with_reducible exact tyI)
    | (with_reducible exact oIsN)
    | (with_reducible exact oIsNotN)
    | (with_reducible exact oIsNotTT)
    | ((with_reducible refine oMul ?_); omega)
    | ((with_reducible apply jInsGt); omega)
    | (with_reducible exact neT2)
    | (with_reducible exact oNeg)
    | (with_reducible exact oNeB)
    | (with_reducible exact oNeL0)
    | (with_reducible exact oNeL1)
    | (with_reducible exact oNeL2)
    | (with_reducible exact oNeR0)
    | ((with_reducible refine oNeT ?_); omega)
    | ((with_reducible refine oNeF ?_); omega)
    | ((with_reducible refine jNeRT ?_); rfl)
    | (with_reducible apply jSq)
    | (with_reducible apply jSqF)
    | (with_reducible apply jUn)
    | (with_reducible exact jMpN)
    | (with_reducible apply jMpC)
    | (with_reducible apply jGTp)
    | ((with_reducible refine oLtT ?_); omega)
    | ((with_reducible refine oLtF ?_); omega)
    | (with_reducible apply jTup)
    | (with_reducible exact oIntI)
    | (with_reducible apply jOr)
    | (with_reducible apply jOrV)
    | (with_reducible exact jLcN)
    | (with_reducible exact jLc2N)
    | (with_reducible apply jLc)
    | (with_reducible apply jLcC)
    | (with_reducible apply jLcK)
    | (with_reducible apply jLc2)
    | (with_reducible apply jLc2C)
    | (with_reducible exact atLast)
    | (with_reducible apply jCh)
    | (with_reducible apply jChK)
    | (with_reducible apply jExpr)
    | (with_reducible exact oSub)
    | (with_reducible exact insNil)
    | ((with_reducible refine insLt ?_); omega)
    | ((with_reducible refine insEq ?_); omega)
    | (with_reducible exact eAsT)
    | (with_reducible exact eAsL)
    | (with_reducible exact kII)
    | (with_reducible exact kIB)
    | (with_reducible exact jGxN)
    | (with_reducible exact jGxM)
    | (with_reducible apply jGx)
    | (with_reducible apply jGxC)
    | (with_reducible apply jGxK)
    | (with_reducible exact oListT)
    | (with_reducible apply jLenT)
    | (with_reducible apply jLenL)
    | (with_reducible apply jLenR)
    | ((with_reducible refine oGtT ?_); omega)
    | ((with_reducible refine oGtF ?_); omega)
    | (with_reducible exact tyT)
    | (with_reducible exact kTT)
    | (with_reducible exact jKret)
    | (with_reducible exact jZN)
    | (with_reducible exact jZN2)
    | (with_reducible apply jZp)
    | (with_reducible apply jZC)
    | (with_reducible exact ssetN)
    | (with_reducible apply jSS)
    | ((with_reducible refine oGeT ?_); omega)
    | ((with_reducible refine oGeF ?_); omega)
    | (with_reducible exact asQT)
    | (with_reducible exact asQL)
    | (with_reducible apply jSlT)
    | ((with_reducible refine oDiv ?_); omega)
    | (with_reducible exact jFret)
    | (with_reducible exact iN1)
    | (with_reducible exact iN2)
    | (with_reducible exact iN3)
    | (with_reducible exact oTupL)
    | (with_reducible exact oTupT)
    | (with_reducible exact tyN)
    | (with_reducible exact tyB)
    | (with_reducible exact kIT)
    | (with_reducible exact kIL)
    | ((with_reducible refine oMaxL ?_); omega)
    | ((with_reducible refine oMaxR ?_); omega)
    | (show Int.toNat _ = _; (try simp only [List.length_cons, List.length_nil, Nat.zero_add, Nat.reduceAdd, Int.cast_ofNat_Int, Int.reduceToNat, Int.reduceSub, Int.toNat_natCast]); (try rfl); done)
    | (show List.length _ = _; (try simp only [List.length_cons, List.length_nil, List.length_append, List.cons_append, List.nil_append, Nat.zero_add, Nat.reduceAdd]); (try rfl); done)
    | (show Nat.ble _ _ = true; rfl)
    | (show atI _ _ = _; rfl)
    | (show one dAll _ _ = _; rfl)
    | (with_reducible rfl)
    | omega
    | with_reducible assumption))) hS ?_, ?_⟩
    · rfl
    · rfl
  · subst hi
    refine ⟨_, gc_eq (R := [.dead]) (run__law_spans rfl (by repeat' (first
    | (with_reducible exact jSet0)
    | (with_reducible apply jSetS)
    | ((with_reducible apply jVar); rfl)
    | (with_reducible apply jOp)
    | (with_reducible exact eC)
    | (with_reducible apply jCons)
    | (with_reducible exact jNil)
    | (with_reducible apply jSeq)
    | (with_reducible apply jKnx)
    | (with_reducible exact jSt0)
    | (with_reducible apply jStN)
    | (with_reducible apply jStC)
    | ((with_reducible refine jIteT ?hp ?_); case hp => rfl)
    | ((with_reducible refine jIteF ?hp ?_); case hp => exact Bool.false_ne_true)
    | ((with_reducible refine jIteF ?hp ?_); case hp => decide)
    | (with_reducible exact jApN)
    | (with_reducible apply jAppend)
    | (with_reducible apply jApC)
    | (with_reducible exact jGNl)
    | (with_reducible apply jGNm)
    | (with_reducible apply jIxT)
    | (with_reducible apply jIxL)
    | (with_reducible apply jIxR)
    | (with_reducible exact oAdd)
    | (with_reducible exact oTB)
    | (with_reducible apply jTst)
    | (with_reducible apply jIf)
    | (with_reducible apply jIfE)
    | (with_reducible apply jAnd)
    | (with_reducible apply jAndV)
    | (with_reducible apply jCall)
    | (with_reducible apply jSet)
    | (with_reducible exact cellEnd)
    | (with_reducible exact jForN)
    | (with_reducible apply jFor)
    | (with_reducible apply jForC)
    | (with_reducible apply jCB)
    | (with_reducible apply jFnx)
    | (with_reducible exact jSNil)
    | (with_reducible apply jGCs)
    | (with_reducible exact jRN)
    | (with_reducible apply jR1)
    | (with_reducible apply jR2)
    | (with_reducible apply jRS)
    | (with_reducible exact jRetKL)
    | (with_reducible apply jRet)
    | (with_reducible apply jRetF)
    | (with_reducible apply jRetKR)
    | (with_reducible exact oEqB)
    | ((with_reducible refine oEqT ?_); omega)
    | ((with_reducible refine oEqF ?_); omega)
    | (with_reducible exact jTruR0)
    | (with_reducible exact jTruR1)
    | (with_reducible apply jTru)
    | (with_reducible apply jLst)
    | (with_reducible apply jLstM)
    | (with_reducible apply jPar)
    | (with_reducible apply jPar3)
    | (with_reducible apply jPart)
    | (with_reducible apply jIsi)
    | ((with_reducible show atI _ _ = _); rfl)
    | ((with_reducible show Nat.ble _ _ = true); rfl)
    | ((with_reducible refine oMod ?_); omega)
    | (with_reducible apply jAddR)
    | (with_reducible apply jAddL)
    | (with_reducible apply jAddT)
    | ((with_reducible refine oLeT ?_); omega)
    | ((with_reducible refine oLeF ?_); omega)
    | (with_reducible exact jYes)
    | (with_reducible exact jAsN)
    | (with_reducible apply jAsg)
    | (with_reducible apply jAsC)
    | (with_reducible apply jSetLast)
    | (with_reducible apply jSetC)
    | (with_reducible exact jWN)
    | (with_reducible apply jWC)
    | (with_reducible exact jNo)
    | (with_reducible apply jNot)
    | (with_reducible apply jNotV)
    | (with_reducible exact setEnd)
    | (with_reducible exact tyI)
    | (with_reducible exact oIsN)
    | (with_reducible exact oIsNotN)
    | (with_reducible exact oIsNotTT)
    | ((with_reducible refine oMul ?_); omega)
    | ((with_reducible apply jInsGt); omega)
    | (with_reducible exact neT2)
    | (with_reducible exact oNeg)
    | (with_reducible exact oNeB)
    | (with_reducible exact oNeL0)
    | (with_reducible exact oNeL1)
    | (with_reducible exact oNeL2)
    | (with_reducible exact oNeR0)
    | ((with_reducible refine oNeT ?_); omega)
    | ((with_reducible refine oNeF ?_); omega)
    | ((with_reducible refine jNeRT ?_); rfl)
    | (with_reducible apply jSq)
    | (with_reducible apply jSqF)
    | (with_reducible apply jUn)
    | (with_reducible exact jMpN)
    | (with_reducible apply jMpC)
    | (with_reducible apply jGTp)
    | ((with_reducible refine oLtT ?_); omega)
    | ((with_reducible refine oLtF ?_); omega)
    | (with_reducible apply jTup)
    | (with_reducible exact oIntI)
    | (with_reducible apply jOr)
    | (with_reducible apply jOrV)
    | (with_reducible exact jLcN)
    | (with_reducible exact jLc2N)
    | (with_reducible apply jLc)
    | (with_reducible apply jLcC)
    | (with_reducible apply jLcK)
    | (with_reducible apply jLc2)
    | (with_reducible apply jLc2C)
    | (with_reducible exact atLast)
    | (with_reducible apply jCh)
    | (with_reducible apply jChK)
    | (with_reducible apply jExpr)
    | (with_reducible exact oSub)
    | (with_reducible exact insNil)
    | ((with_reducible refine insLt ?_); omega)
    | ((with_reducible refine insEq ?_); omega)
    | (with_reducible exact eAsT)
    | (with_reducible exact eAsL)
    | (with_reducible exact kII)
    | (with_reducible exact kIB)
    | (with_reducible exact jGxN)
    | (with_reducible exact jGxM)
    | (with_reducible apply jGx)
    | (with_reducible apply jGxC)
    | (with_reducible apply jGxK)
    | (with_reducible exact oListT)
    | (with_reducible apply jLenT)
    | (with_reducible apply jLenL)
    | (with_reducible apply jLenR)
    | ((with_reducible refine oGtT ?_); omega)
    | ((with_reducible refine oGtF ?_); omega)
    | (with_reducible exact tyT)
    | (with_reducible exact kTT)
    | (with_reducible exact jKret)
    | (with_reducible exact jZN)
    | (with_reducible exact jZN2)
    | (with_reducible apply jZp)
    | (with_reducible apply jZC)
    | (with_reducible exact ssetN)
    | (with_reducible apply jSS)
    | ((with_reducible refine oGeT ?_); omega)
    | ((with_reducible refine oGeF ?_); omega)
    | (with_reducible exact asQT)
    | (with_reducible exact asQL)
    | (with_reducible apply jSlT)
    | ((with_reducible refine oDiv ?_); omega)
    | (with_reducible exact jFret)
    | (with_reducible exact iN1)
    | (with_reducible exact iN2)
    | (with_reducible exact iN3)
    | (with_reducible exact oTupL)
    | (with_reducible exact oTupT)
    | (with_reducible exact tyN)
    | (with_reducible exact tyB)
    | (with_reducible exact kIT)
    | (with_reducible exact kIL)
    | ((with_reducible refine oMaxL ?_); omega)
    | ((with_reducible refine oMaxR ?_); omega)
    | (show Int.toNat _ = _; (try simp only [List.length_cons, List.length_nil, Nat.zero_add, Nat.reduceAdd, Int.cast_ofNat_Int, Int.reduceToNat, Int.reduceSub, Int.toNat_natCast]); (try rfl); done)
    | (show List.length _ = _; (try simp only [List.length_cons, List.length_nil, List.length_append, List.cons_append, List.nil_append, Nat.zero_add, Nat.reduceAdd]); (try rfl); done)
    | (show Nat.ble _ _ = true; rfl)
    | (show atI _ _ = _; rfl)
    | (show one dAll _ _ = _; rfl)
    | (with_reducible rfl)
    | omega
    | with_reducible assumption)) (by repeat' (first
    | ((with_reducible apply ev_marksB1) <;> (first | omega | assumption | (apply SokR; assumption; rfl)))
    | ((with_reducible apply ev_marksB2) <;> (first | omega | assumption | (apply SokR; assumption; rfl)))
    | ((with_reducible apply ev_marksB0) <;> (first | omega | assumption | (apply SokR; assumption; rfl)))
    | (with_reducible exact jSet0)
    | (with_reducible apply jSetS)
    | ((with_reducible apply jVar); rfl)
    | (with_reducible apply jOp)
    | (with_reducible exact eC)
    | (with_reducible apply jCons)
    | (with_reducible exact jNil)
    | (with_reducible apply jSeq)
    | (with_reducible apply jKnx)
    | (with_reducible exact jSt0)
    | (with_reducible apply jStN)
    | (with_reducible apply jStC)
    | ((with_reducible refine jIteT ?hp ?_); case hp => rfl)
    | ((with_reducible refine jIteF ?hp ?_); case hp => exact Bool.false_ne_true)
    | ((with_reducible refine jIteF ?hp ?_); case hp => decide)
    | (with_reducible exact jApN)
    | (with_reducible apply jAppend)
    | (with_reducible apply jApC)
    | (with_reducible exact jGNl)
    | (with_reducible apply jGNm)
    | (with_reducible apply jIxT)
    | (with_reducible apply jIxL)
    | (with_reducible apply jIxR)
    | (with_reducible exact oAdd)
    | (with_reducible exact oTB)
    | (with_reducible apply jTst)
    | (with_reducible apply jIf)
    | (with_reducible apply jIfE)
    | (with_reducible apply jAnd)
    | (with_reducible apply jAndV)
    | (with_reducible apply jCall)
    | (with_reducible apply jSet)
    | (with_reducible exact cellEnd)
    | (with_reducible exact jForN)
    | (with_reducible apply jFor)
    | (with_reducible apply jForC)
    | (with_reducible apply jCB)
    | (with_reducible apply jFnx)
    | (with_reducible exact jSNil)
    | (with_reducible apply jGCs)
    | (with_reducible exact jRN)
    | (with_reducible apply jR1)
    | (with_reducible apply jR2)
    | (with_reducible apply jRS)
    | (with_reducible exact jRetKL)
    | (with_reducible apply jRet)
    | (with_reducible apply jRetF)
    | (with_reducible apply jRetKR)
    | (with_reducible exact oEqB)
    | ((with_reducible refine oEqT ?_); omega)
    | ((with_reducible refine oEqF ?_); omega)
    | (with_reducible exact jTruR0)
    | (with_reducible exact jTruR1)
    | (with_reducible apply jTru)
    | (with_reducible apply jLst)
    | (with_reducible apply jLstM)
    | (with_reducible apply jPar)
    | (with_reducible apply jPar3)
    | (with_reducible apply jPart)
    | (with_reducible apply jIsi)
    | ((with_reducible show atI _ _ = _); rfl)
    | ((with_reducible show Nat.ble _ _ = true); rfl)
    | ((with_reducible refine oMod ?_); omega)
    | (with_reducible apply jAddR)
    | (with_reducible apply jAddL)
    | (with_reducible apply jAddT)
    | ((with_reducible refine oLeT ?_); omega)
    | ((with_reducible refine oLeF ?_); omega)
    | (with_reducible exact jYes)
    | (with_reducible exact jAsN)
    | (with_reducible apply jAsg)
    | (with_reducible apply jAsC)
    | (with_reducible apply jSetLast)
    | (with_reducible apply jSetC)
    | (with_reducible exact jWN)
    | (with_reducible apply jWC)
    | (with_reducible exact jNo)
    | (with_reducible apply jNot)
    | (with_reducible apply jNotV)
    | (with_reducible exact setEnd)
    | (with_reducible exact tyI)
    | (with_reducible exact oIsN)
    | (with_reducible exact oIsNotN)
    | (with_reducible exact oIsNotTT)
    | ((with_reducible refine oMul ?_); omega)
    | ((with_reducible apply jInsGt); omega)
    | (with_reducible exact neT2)
    | (with_reducible exact oNeg)
    | (with_reducible exact oNeB)
    | (with_reducible exact oNeL0)
    | (with_reducible exact oNeL1)
    | (with_reducible exact oNeL2)
    | (with_reducible exact oNeR0)
    | ((with_reducible refine oNeT ?_); omega)
    | ((with_reducible refine oNeF ?_); omega)
    | ((with_reducible refine jNeRT ?_); rfl)
    | (with_reducible apply jSq)
    | (with_reducible apply jSqF)
    | (with_reducible apply jUn)
    | (with_reducible exact jMpN)
    | (with_reducible apply jMpC)
    | (with_reducible apply jGTp)
    | ((with_reducible refine oLtT ?_); omega)
    | ((with_reducible refine oLtF ?_); omega)
    | (with_reducible apply jTup)
    | (with_reducible exact oIntI)
    | (with_reducible apply jOr)
    | (with_reducible apply jOrV)
    | (with_reducible exact jLcN)
    | (with_reducible exact jLc2N)
    | (with_reducible apply jLc)
    | (with_reducible apply jLcC)
    | (with_reducible apply jLcK)
    | (with_reducible apply jLc2)
    | (with_reducible apply jLc2C)
    | (with_reducible exact atLast)
    | (with_reducible apply jCh)
    | (with_reducible apply jChK)
    | (with_reducible apply jExpr)
    | (with_reducible exact oSub)
    | (with_reducible exact insNil)
    | ((with_reducible refine insLt ?_); omega)
    | ((with_reducible refine insEq ?_); omega)
    | (with_reducible exact eAsT)
    | (with_reducible exact eAsL)
    | (with_reducible exact kII)
    | (with_reducible exact kIB)
    | (with_reducible exact jGxN)
    | (with_reducible exact jGxM)
    | (with_reducible apply jGx)
    | (with_reducible apply jGxC)
    | (with_reducible apply jGxK)
    | (with_reducible exact oListT)
    | (with_reducible apply jLenT)
    | (with_reducible apply jLenL)
    | (with_reducible apply jLenR)
    | ((with_reducible refine oGtT ?_); omega)
    | ((with_reducible refine oGtF ?_); omega)
    | (with_reducible exact tyT)
    | (with_reducible exact kTT)
    | (with_reducible exact jKret)
    | (with_reducible exact jZN)
    | (with_reducible exact jZN2)
    | (with_reducible apply jZp)
    | (with_reducible apply jZC)
    | (with_reducible exact ssetN)
    | (with_reducible apply jSS)
    | ((with_reducible refine oGeT ?_); omega)
    | ((with_reducible refine oGeF ?_); omega)
    | (with_reducible exact asQT)
    | (with_reducible exact asQL)
    | (with_reducible apply jSlT)
    | ((with_reducible refine oDiv ?_); omega)
    | (with_reducible exact jFret)
    | (with_reducible exact iN1)
    | (with_reducible exact iN2)
    | (with_reducible exact iN3)
    | (with_reducible exact oTupL)
    | (with_reducible exact oTupT)
    | (with_reducible exact tyN)
    | (with_reducible exact tyB)
    | (with_reducible exact kIT)
    | (with_reducible exact kIL)
    | ((with_reducible refine oMaxL ?_); omega)
    | ((with_reducible refine oMaxR ?_); omega)
    | (show Int.toNat _ = _; (try simp only [List.length_cons, List.length_nil, Nat.zero_add, Nat.reduceAdd, Int.cast_ofNat_Int, Int.reduceToNat, Int.reduceSub, Int.toNat_natCast]); (try rfl); done)
    | (show List.length _ = _; (try simp only [List.length_cons, List.length_nil, List.length_append, List.cons_append, List.nil_append, Nat.zero_add, Nat.reduceAdd]); (try rfl); done)
    | (show Nat.ble _ _ = true; rfl)
    | (show atI _ _ = _; rfl)
    | (show one dAll _ _ = _; rfl)
    | (with_reducible rfl)
    | omega
    | with_reducible assumption))) hS ?_, ?_⟩
    · rfl
    · rfl
theorem ev_farB (f g h i b n q : Int) (S : Store) (hh : 0 < f ∧ f < h ∧ h < i ∧ i ≤ f + b ∧ f + b < g ∧ g + b < 100000) (hS : Sok S = true) : F__law_fits_far [.tup [.int f, .int g], .tup [.int f, .int h, .int i, .int g], .tup [.int b, .int n, .int q]] S = some (.bl true, S) := by
  obtain ⟨r, e, rfl⟩ := ev_spansB f g h i b S hh hS
  repeat' (first
    | (with_reducible exact e)
    | (with_reducible apply run__law_fits_far)
    | (with_reducible exact jSet0)
    | (with_reducible apply jSetS)
    | ((with_reducible apply jVar); rfl)
    | (with_reducible apply jOp)
    | (with_reducible exact eC)
    | (with_reducible apply jCons)
    | (with_reducible exact jNil)
    | (with_reducible apply jSeq)
    | (with_reducible apply jKnx)
    | (with_reducible exact jSt0)
    | (with_reducible apply jStN)
    | (with_reducible apply jStC)
    | ((with_reducible refine jIteT ?hp ?_); case hp => rfl)
    | ((with_reducible refine jIteF ?hp ?_); case hp => exact Bool.false_ne_true)
    | ((with_reducible refine jIteF ?hp ?_); case hp => decide)
    | (with_reducible exact jApN)
    | (with_reducible apply jAppend)
    | (with_reducible apply jApC)
    | (with_reducible exact jGNl)
    | (with_reducible apply jGNm)
    | (with_reducible apply jIxT)
    | (with_reducible apply jIxL)
    | (with_reducible apply jIxR)
    | (with_reducible exact oAdd)
    | (with_reducible exact oTB)
    | (with_reducible apply jTst)
    | (with_reducible apply jIf)
    | (with_reducible apply jIfE)
    | (with_reducible apply jAnd)
    | (with_reducible apply jAndV)
    | (with_reducible apply jCall)
    | (with_reducible apply jSet)
    | (with_reducible exact cellEnd)
    | (with_reducible exact jForN)
    | (with_reducible apply jFor)
    | (with_reducible apply jForC)
    | (with_reducible apply jCB)
    | (with_reducible apply jFnx)
    | (with_reducible exact jSNil)
    | (with_reducible apply jGCs)
    | (with_reducible exact jRN)
    | (with_reducible apply jR1)
    | (with_reducible apply jR2)
    | (with_reducible apply jRS)
    | (with_reducible exact jRetKL)
    | (with_reducible apply jRet)
    | (with_reducible apply jRetF)
    | (with_reducible apply jRetKR)
    | (with_reducible exact oEqB)
    | ((with_reducible refine oEqT ?_); omega)
    | ((with_reducible refine oEqF ?_); omega)
    | (with_reducible exact jTruR0)
    | (with_reducible exact jTruR1)
    | (with_reducible apply jTru)
    | (with_reducible apply jLst)
    | (with_reducible apply jLstM)
    | (with_reducible apply jPar)
    | (with_reducible apply jPar3)
    | (with_reducible apply jPart)
    | (with_reducible apply jIsi)
    | ((with_reducible show atI _ _ = _); rfl)
    | ((with_reducible show Nat.ble _ _ = true); rfl)
    | ((with_reducible refine oMod ?_); omega)
    | (with_reducible apply jAddR)
    | (with_reducible apply jAddL)
    | (with_reducible apply jAddT)
    | ((with_reducible refine oLeT ?_); omega)
    | ((with_reducible refine oLeF ?_); omega)
    | (with_reducible exact jYes)
    | (with_reducible exact jAsN)
    | (with_reducible apply jAsg)
    | (with_reducible apply jAsC)
    | (with_reducible apply jSetLast)
    | (with_reducible apply jSetC)
    | (with_reducible exact jWN)
    | (with_reducible apply jWC)
    | (with_reducible exact jNo)
    | (with_reducible apply jNot)
    | (with_reducible apply jNotV)
    | (with_reducible exact setEnd)
    | (with_reducible exact tyI)
    | (with_reducible exact oIsN)
    | (with_reducible exact oIsNotN)
    | (with_reducible exact oIsNotTT)
    | ((with_reducible refine oMul ?_); omega)
    | ((with_reducible apply jInsGt); omega)
    | (with_reducible exact neT2)
    | (with_reducible exact oNeg)
    | (with_reducible exact oNeB)
    | (with_reducible exact oNeL0)
    | (with_reducible exact oNeL1)
    | (with_reducible exact oNeL2)
    | (with_reducible exact oNeR0)
    | ((with_reducible refine oNeT ?_); omega)
    | ((with_reducible refine oNeF ?_); omega)
    | ((with_reducible refine jNeRT ?_); rfl)
    | (with_reducible apply jSq)
    | (with_reducible apply jSqF)
    | (with_reducible apply jUn)
    | (with_reducible exact jMpN)
    | (with_reducible apply jMpC)
    | (with_reducible apply jGTp)
    | ((with_reducible refine oLtT ?_); omega)
    | ((with_reducible refine oLtF ?_); omega)
    | (with_reducible apply jTup)
    | (with_reducible exact oIntI)
    | (with_reducible apply jOr)
    | (with_reducible apply jOrV)
    | (with_reducible exact jLcN)
    | (with_reducible exact jLc2N)
    | (with_reducible apply jLc)
    | (with_reducible apply jLcC)
    | (with_reducible apply jLcK)
    | (with_reducible apply jLc2)
    | (with_reducible apply jLc2C)
    | (with_reducible exact atLast)
    | (with_reducible apply jCh)
    | (with_reducible apply jChK)
    | (with_reducible apply jExpr)
    | (with_reducible exact oSub)
    | (with_reducible exact insNil)
    | ((with_reducible refine insLt ?_); omega)
    | ((with_reducible refine insEq ?_); omega)
    | (with_reducible exact eAsT)
    | (with_reducible exact eAsL)
    | (with_reducible exact kII)
    | (with_reducible exact kIB)
    | (with_reducible exact jGxN)
    | (with_reducible exact jGxM)
    | (with_reducible apply jGx)
    | (with_reducible apply jGxC)
    | (with_reducible apply jGxK)
    | (with_reducible exact oListT)
    | (with_reducible apply jLenT)
    | (with_reducible apply jLenL)
    | (with_reducible apply jLenR)
    | ((with_reducible refine oGtT ?_); omega)
    | ((with_reducible refine oGtF ?_); omega)
    | (with_reducible exact tyT)
    | (with_reducible exact kTT)
    | (with_reducible exact jKret)
    | (with_reducible exact jZN)
    | (with_reducible exact jZN2)
    | (with_reducible apply jZp)
    | (with_reducible apply jZC)
    | (with_reducible exact ssetN)
    | (with_reducible apply jSS)
    | ((with_reducible refine oGeT ?_); omega)
    | ((with_reducible refine oGeF ?_); omega)
    | (with_reducible exact asQT)
    | (with_reducible exact asQL)
    | (with_reducible apply jSlT)
    | ((with_reducible refine oDiv ?_); omega)
    | (with_reducible exact jFret)
    | (with_reducible exact iN1)
    | (with_reducible exact iN2)
    | (with_reducible exact iN3)
    | (with_reducible exact oTupL)
    | (with_reducible exact oTupT)
    | (with_reducible exact tyN)
    | (with_reducible exact tyB)
    | (with_reducible exact kIT)
    | (with_reducible exact kIL)
    | ((with_reducible refine oMaxL ?_); omega)
    | ((with_reducible refine oMaxR ?_); omega)
    | (show Int.toNat _ = _; (try simp only [List.length_cons, List.length_nil, Nat.zero_add, Nat.reduceAdd, Int.cast_ofNat_Int, Int.reduceToNat, Int.reduceSub, Int.toNat_natCast]); (try rfl); done)
    | (show List.length _ = _; (try simp only [List.length_cons, List.length_nil, List.length_append, List.cons_append, List.nil_append, Nat.zero_add, Nat.reduceAdd]); (try rfl); done)
    | (show Nat.ble _ _ = true; rfl)
    | (show atI _ _ = _; rfl)
    | (show one dAll _ _ = _; rfl)
    | (with_reducible rfl)
    | omega
    | with_reducible assumption)
end K51

namespace K51
open PySem PySem.Spec PyProof.Rows L2 DL
theorem ev_fitsA (f g b n q : Int) (S : Store) (h : 0 < f ∧ f < g ∧ g < 100000 ∧ g - f ≤ n) (hS : Sok S = true) : F_fits_signal [.tup [], .tup [.int f, .int g], .tup [.int b, .int n, .int q]] S = some (.bl true, S) := by
  obtain ⟨r, e1, rfl⟩ : ∃ r, F_wrong_spans [.tup [], .tup [.int f, .int g]] S = some (.lst r, S) ∧ r = [.tup [.int f, .int g]] := by
    refine ⟨_, gc_eq (R := [.dead]) (run_wrong_spans rfl (by repeat' (first
    | (with_reducible exact jSet0)
    | (with_reducible apply jSetS)
    | ((with_reducible apply jVar); rfl)
    | (with_reducible apply jOp)
    | (with_reducible exact eC)
    | (with_reducible apply jCons)
    | (with_reducible exact jNil)
    | (with_reducible apply jSeq)
    | (with_reducible apply jKnx)
    | (with_reducible exact jSt0)
    | (with_reducible apply jStN)
    | (with_reducible apply jStC)
    | ((with_reducible refine jIteT ?hp ?_); case hp => rfl)
    | ((with_reducible refine jIteF ?hp ?_); case hp => exact Bool.false_ne_true)
    | ((with_reducible refine jIteF ?hp ?_); case hp => decide)
    | (with_reducible exact jApN)
    | (with_reducible apply jAppend)
    | (with_reducible apply jApC)
    | (with_reducible exact jGNl)
    | (with_reducible apply jGNm)
    | (with_reducible apply jIxT)
    | (with_reducible apply jIxL)
    | (with_reducible apply jIxR)
    | (with_reducible exact oAdd)
    | (with_reducible exact oTB)
    | (with_reducible apply jTst)
    | (with_reducible apply jIf)
    | (with_reducible apply jIfE)
    | (with_reducible apply jAnd)
    | (with_reducible apply jAndV)
    | (with_reducible apply jCall)
    | (with_reducible apply jSet)
    | (with_reducible exact cellEnd)
    | (with_reducible exact jForN)
    | (with_reducible apply jFor)
    | (with_reducible apply jForC)
    | (with_reducible apply jCB)
    | (with_reducible apply jFnx)
    | (with_reducible exact jSNil)
    | (with_reducible apply jGCs)
    | (with_reducible exact jRN)
    | (with_reducible apply jR1)
    | (with_reducible apply jR2)
    | (with_reducible apply jRS)
    | (with_reducible exact jRetKL)
    | (with_reducible apply jRet)
    | (with_reducible apply jRetF)
    | (with_reducible apply jRetKR)
    | (with_reducible exact oEqB)
    | ((with_reducible refine oEqT ?_); omega)
    | ((with_reducible refine oEqF ?_); omega)
    | (with_reducible exact jTruR0)
    | (with_reducible exact jTruR1)
    | (with_reducible apply jTru)
    | (with_reducible apply jLst)
    | (with_reducible apply jLstM)
    | (with_reducible apply jPar)
    | (with_reducible apply jPar3)
    | (with_reducible apply jPart)
    | (with_reducible apply jIsi)
    | ((with_reducible show atI _ _ = _); rfl)
    | ((with_reducible show Nat.ble _ _ = true); rfl)
    | ((with_reducible refine oMod ?_); omega)
    | (with_reducible apply jAddR)
    | (with_reducible apply jAddL)
    | (with_reducible apply jAddT)
    | ((with_reducible refine oLeT ?_); omega)
    | ((with_reducible refine oLeF ?_); omega)
    | (with_reducible exact jYes)
    | (with_reducible exact jAsN)
    | (with_reducible apply jAsg)
    | (with_reducible apply jAsC)
    | (with_reducible apply jSetLast)
    | (with_reducible apply jSetC)
    | (with_reducible exact jWN)
    | (with_reducible apply jWC)
    | (with_reducible exact jNo)
    | (with_reducible apply jNot)
    | (with_reducible apply jNotV)
    | (with_reducible exact setEnd)
    | (with_reducible exact tyI)
    | (with_reducible exact oIsN)
    | (with_reducible exact oIsNotN)
    | (with_reducible exact oIsNotTT)
    | ((with_reducible refine oMul ?_); omega)
    | ((with_reducible apply jInsGt); omega)
    | (with_reducible exact neT2)
    | (with_reducible exact oNeg)
    | (with_reducible exact oNeB)
    | (with_reducible exact oNeL0)
    | (with_reducible exact oNeL1)
    | (with_reducible exact oNeL2)
    | (with_reducible exact oNeR0)
    | ((with_reducible refine oNeT ?_); omega)
    | ((with_reducible refine oNeF ?_); omega)
    | ((with_reducible refine jNeRT ?_); rfl)
    | (with_reducible apply jSq)
    | (with_reducible apply jSqF)
    | (with_reducible apply jUn)
    | (with_reducible exact jMpN)
    | (with_reducible apply jMpC)
    | (with_reducible apply jGTp)
    | ((with_reducible refine oLtT ?_); omega)
    | ((with_reducible refine oLtF ?_); omega)
    | (with_reducible apply jTup)
    | (with_reducible exact oIntI)
    | (with_reducible apply jOr)
    | (with_reducible apply jOrV)
    | (with_reducible exact jLcN)
    | (with_reducible exact jLc2N)
    | (with_reducible apply jLc)
    | (with_reducible apply jLcC)
    | (with_reducible apply jLcK)
    | (with_reducible apply jLc2)
    | (with_reducible apply jLc2C)
    | (with_reducible exact atLast)
    | (with_reducible apply jCh)
    | (with_reducible apply jChK)
    | (with_reducible apply jExpr)
    | (with_reducible exact oSub)
    | (with_reducible exact insNil)
    | ((with_reducible refine insLt ?_); omega)
    | ((with_reducible refine insEq ?_); omega)
    | (with_reducible exact eAsT)
    | (with_reducible exact eAsL)
    | (with_reducible exact kII)
    | (with_reducible exact kIB)
    | (with_reducible exact jGxN)
    | (with_reducible exact jGxM)
    | (with_reducible apply jGx)
    | (with_reducible apply jGxC)
    | (with_reducible apply jGxK)
    | (with_reducible exact oListT)
    | (with_reducible apply jLenT)
    | (with_reducible apply jLenL)
    | (with_reducible apply jLenR)
    | ((with_reducible refine oGtT ?_); omega)
    | ((with_reducible refine oGtF ?_); omega)
    | (with_reducible exact tyT)
    | (with_reducible exact kTT)
    | (with_reducible exact jKret)
    | (with_reducible exact jZN)
    | (with_reducible exact jZN2)
    | (with_reducible apply jZp)
    | (with_reducible apply jZC)
    | (with_reducible exact ssetN)
    | (with_reducible apply jSS)
    | ((with_reducible refine oGeT ?_); omega)
    | ((with_reducible refine oGeF ?_); omega)
    | (with_reducible exact asQT)
    | (with_reducible exact asQL)
    | (with_reducible apply jSlT)
    | ((with_reducible refine oDiv ?_); omega)
    | (with_reducible exact jFret)
    | (with_reducible exact iN1)
    | (with_reducible exact iN2)
    | (with_reducible exact iN3)
    | (with_reducible exact oTupL)
    | (with_reducible exact oTupT)
    | (with_reducible exact tyN)
    | (with_reducible exact tyB)
    | (with_reducible exact kIT)
    | (with_reducible exact kIL)
    | ((with_reducible refine oMaxL ?_); omega)
    | ((with_reducible refine oMaxR ?_); omega)
    | (show Int.toNat _ = _; (try simp only [List.length_cons, List.length_nil, Nat.zero_add, Nat.reduceAdd, Int.cast_ofNat_Int, Int.reduceToNat, Int.reduceSub, Int.toNat_natCast]); (try rfl); done)
    | (show List.length _ = _; (try simp only [List.length_cons, List.length_nil, List.length_append, List.cons_append, List.nil_append, Nat.zero_add, Nat.reduceAdd]); (try rfl); done)
    | (show Nat.ble _ _ = true; rfl)
    | (show atI _ _ = _; rfl)
    | (show one dAll _ _ = _; rfl)
    | (with_reducible rfl)
    | omega
    | with_reducible assumption)) (by repeat' (first
    | ((with_reducible exact jCl0))
    | (with_reducible apply jCl2)
    | (with_reducible apply jCl4)
    | (with_reducible exact jUp0)
    | (with_reducible apply jUp2)
    | (with_reducible apply jUp4)
    | ((with_reducible refine upB_t ?_); (simp (disch := omega) only [cntN, cntT, cntF, Nat.zero_add, Nat.reduceAdd, Nat.reduceMod]; done))
    | ((with_reducible refine upB_f ?_); (simp (disch := omega) only [cntN, cntT, cntF, Nat.zero_add, Nat.reduceAdd, Nat.reduceMod]; done))
    | (with_reducible exact jSet0)
    | (with_reducible apply jSetS)
    | ((with_reducible apply jVar); rfl)
    | (with_reducible apply jOp)
    | (with_reducible exact eC)
    | (with_reducible apply jCons)
    | (with_reducible exact jNil)
    | (with_reducible apply jSeq)
    | (with_reducible apply jKnx)
    | (with_reducible exact jSt0)
    | (with_reducible apply jStN)
    | (with_reducible apply jStC)
    | ((with_reducible refine jIteT ?hp ?_); case hp => rfl)
    | ((with_reducible refine jIteF ?hp ?_); case hp => exact Bool.false_ne_true)
    | ((with_reducible refine jIteF ?hp ?_); case hp => decide)
    | (with_reducible exact jApN)
    | (with_reducible apply jAppend)
    | (with_reducible apply jApC)
    | (with_reducible exact jGNl)
    | (with_reducible apply jGNm)
    | (with_reducible apply jIxT)
    | (with_reducible apply jIxL)
    | (with_reducible apply jIxR)
    | (with_reducible exact oAdd)
    | (with_reducible exact oTB)
    | (with_reducible apply jTst)
    | (with_reducible apply jIf)
    | (with_reducible apply jIfE)
    | (with_reducible apply jAnd)
    | (with_reducible apply jAndV)
    | (with_reducible apply jCall)
    | (with_reducible apply jSet)
    | (with_reducible exact cellEnd)
    | (with_reducible exact jForN)
    | (with_reducible apply jFor)
    | (with_reducible apply jForC)
    | (with_reducible apply jCB)
    | (with_reducible apply jFnx)
    | (with_reducible exact jSNil)
    | (with_reducible apply jGCs)
    | (with_reducible exact jRN)
    | (with_reducible apply jR1)
    | (with_reducible apply jR2)
    | (with_reducible apply jRS)
    | (with_reducible exact jRetKL)
    | (with_reducible apply jRet)
    | (with_reducible apply jRetF)
    | (with_reducible apply jRetKR)
    | (with_reducible exact oEqB)
    | ((with_reducible refine oEqT ?_); omega)
    | ((with_reducible refine oEqF ?_); omega)
    | (with_reducible exact jTruR0)
    | (with_reducible exact jTruR1)
    | (with_reducible apply jTru)
    | (with_reducible apply jLst)
    | (with_reducible apply jLstM)
    | (with_reducible apply jPar)
    | (with_reducible apply jPar3)
    | (with_reducible apply jPart)
    | (with_reducible apply jIsi)
    | ((with_reducible show atI _ _ = _); rfl)
    | ((with_reducible show Nat.ble _ _ = true); rfl)
    | ((with_reducible refine oMod ?_); omega)
    | (with_reducible apply jAddR)
    | (with_reducible apply jAddL)
    | (with_reducible apply jAddT)
    | ((with_reducible refine oLeT ?_); omega)
    | ((with_reducible refine oLeF ?_); omega)
    | (with_reducible exact jYes)
    | (with_reducible exact jAsN)
    | (with_reducible apply jAsg)
    | (with_reducible apply jAsC)
    | (with_reducible apply jSetLast)
    | (with_reducible apply jSetC)
    | (with_reducible exact jWN)
    | (with_reducible apply jWC)
    | (with_reducible exact jNo)
    | (with_reducible apply jNot)
    | (with_reducible apply jNotV)
    | (with_reducible exact setEnd)
    | (with_reducible exact tyI)
    | (with_reducible exact oIsN)
    | (with_reducible exact oIsNotN)
    | (with_reducible exact oIsNotTT)
    | ((with_reducible refine oMul ?_); omega)
    | ((with_reducible apply jInsGt); omega)
    | (with_reducible exact neT2)
    | (with_reducible exact oNeg)
    | (with_reducible exact oNeB)
    | (with_reducible exact oNeL0)
    | (with_reducible exact oNeL1)
    | (with_reducible exact oNeL2)
    | (with_reducible exact oNeR0)
    | ((with_reducible refine oNeT ?_); omega)
    | ((with_reducible refine oNeF ?_); omega)
    | ((with_reducible refine jNeRT ?_); rfl)
    | (with_reducible apply jSq)
    | (with_reducible apply jSqF)
    | (with_reducible apply jUn)
    | (with_reducible exact jMpN)
    | (with_reducible apply jMpC)
    | (with_reducible apply jGTp)
    | ((with_reducible refine oLtT ?_); omega)
    | ((with_reducible refine oLtF ?_); omega)
    | (with_reducible apply jTup)
    | (with_reducible exact oIntI)
    | (with_reducible apply jOr)
    | (with_reducible apply jOrV)
    | (with_reducible exact jLcN)
    | (with_reducible exact jLc2N)
    | (with_reducible apply jLc)
    | (with_reducible apply jLcC)
    | (with_reducible apply jLcK)
    | (with_reducible apply jLc2)
    | (with_reducible apply jLc2C)
    | (with_reducible exact atLast)
    | (with_reducible apply jCh)
    | (with_reducible apply jChK)
    | (with_reducible apply jExpr)
    | (with_reducible exact oSub)
    | (with_reducible exact insNil)
    | ((with_reducible refine insLt ?_); omega)
    | ((with_reducible refine insEq ?_); omega)
    | (with_reducible exact eAsT)
    | (with_reducible exact eAsL)
    | (with_reducible exact kII)
    | (with_reducible exact kIB)
    | (with_reducible exact jGxN)
    | (with_reducible exact jGxM)
    | (with_reducible apply jGx)
    | (with_reducible apply jGxC)
    | (with_reducible apply jGxK)
    | (with_reducible exact oListT)
    | (with_reducible apply jLenT)
    | (with_reducible apply jLenL)
    | (with_reducible apply jLenR)
    | ((with_reducible refine oGtT ?_); omega)
    | ((with_reducible refine oGtF ?_); omega)
    | (with_reducible exact tyT)
    | (with_reducible exact kTT)
    | (with_reducible exact jKret)
    | (with_reducible exact jZN)
    | (with_reducible exact jZN2)
    | (with_reducible apply jZp)
    | (with_reducible apply jZC)
    | (with_reducible exact ssetN)
    | (with_reducible apply jSS)
    | ((with_reducible refine oGeT ?_); omega)
    | ((with_reducible refine oGeF ?_); omega)
    | (with_reducible exact asQT)
    | (with_reducible exact asQL)
    | (with_reducible apply jSlT)
    | ((with_reducible refine oDiv ?_); omega)
    | (with_reducible exact jFret)
    | (with_reducible exact iN1)
    | (with_reducible exact iN2)
    | (with_reducible exact iN3)
    | (with_reducible exact oTupL)
    | (with_reducible exact oTupT)
    | (with_reducible exact tyN)
    | (with_reducible exact tyB)
    | (with_reducible exact kIT)
    | (with_reducible exact kIL)
    | ((with_reducible refine oMaxL ?_); omega)
    | ((with_reducible refine oMaxR ?_); omega)
    | (show Int.toNat _ = _; (try simp only [List.length_cons, List.length_nil, Nat.zero_add, Nat.reduceAdd, Int.cast_ofNat_Int, Int.reduceToNat, Int.reduceSub, Int.toNat_natCast]); (try rfl); done)
    | (show List.length _ = _; (try simp only [List.length_cons, List.length_nil, List.length_append, List.cons_append, List.nil_append, Nat.zero_add, Nat.reduceAdd]); (try rfl); done)
    | (show Nat.ble _ _ = true; rfl)
    | (show atI _ _ = _; rfl)
    | (show one dAll _ _ = _; rfl)
    | (with_reducible rfl)
    | omega
    | with_reducible assumption))) hS ?_, ?_⟩
    · rfl
    · rfl
  obtain ⟨r, e2, rfl⟩ : ∃ r, F_bounce_spans [.tup [], .int b] S = some (.lst r, S) ∧ r = [] := by
    refine ⟨_, gc_eq (R := [.dead]) (run_bounce_spans rfl (by repeat' (first
    | (with_reducible exact jSet0)
    | (with_reducible apply jSetS)
    | ((with_reducible apply jVar); rfl)
    | (with_reducible apply jOp)
    | (with_reducible exact eC)
    | (with_reducible apply jCons)
    | (with_reducible exact jNil)
    | (with_reducible apply jSeq)
    | (with_reducible apply jKnx)
    | (with_reducible exact jSt0)
    | (with_reducible apply jStN)
    | (with_reducible apply jStC)
    | ((with_reducible refine jIteT ?hp ?_); case hp => rfl)
    | ((with_reducible refine jIteF ?hp ?_); case hp => exact Bool.false_ne_true)
    | ((with_reducible refine jIteF ?hp ?_); case hp => decide)
    | (with_reducible exact jApN)
    | (with_reducible apply jAppend)
    | (with_reducible apply jApC)
    | (with_reducible exact jGNl)
    | (with_reducible apply jGNm)
    | (with_reducible apply jIxT)
    | (with_reducible apply jIxL)
    | (with_reducible apply jIxR)
    | (with_reducible exact oAdd)
    | (with_reducible exact oTB)
    | (with_reducible apply jTst)
    | (with_reducible apply jIf)
    | (with_reducible apply jIfE)
    | (with_reducible apply jAnd)
    | (with_reducible apply jAndV)
    | (with_reducible apply jCall)
    | (with_reducible apply jSet)
    | (with_reducible exact cellEnd)
    | (with_reducible exact jForN)
    | (with_reducible apply jFor)
    | (with_reducible apply jForC)
    | (with_reducible apply jCB)
    | (with_reducible apply jFnx)
    | (with_reducible exact jSNil)
    | (with_reducible apply jGCs)
    | (with_reducible exact jRN)
    | (with_reducible apply jR1)
    | (with_reducible apply jR2)
    | (with_reducible apply jRS)
    | (with_reducible exact jRetKL)
    | (with_reducible apply jRet)
    | (with_reducible apply jRetF)
    | (with_reducible apply jRetKR)
    | (with_reducible exact oEqB)
    | ((with_reducible refine oEqT ?_); omega)
    | ((with_reducible refine oEqF ?_); omega)
    | (with_reducible exact jTruR0)
    | (with_reducible exact jTruR1)
    | (with_reducible apply jTru)
    | (with_reducible apply jLst)
    | (with_reducible apply jLstM)
    | (with_reducible apply jPar)
    | (with_reducible apply jPar3)
    | (with_reducible apply jPart)
    | (with_reducible apply jIsi)
    | ((with_reducible show atI _ _ = _); rfl)
    | ((with_reducible show Nat.ble _ _ = true); rfl)
    | ((with_reducible refine oMod ?_); omega)
    | (with_reducible apply jAddR)
    | (with_reducible apply jAddL)
    | (with_reducible apply jAddT)
    | ((with_reducible refine oLeT ?_); omega)
    | ((with_reducible refine oLeF ?_); omega)
    | (with_reducible exact jYes)
    | (with_reducible exact jAsN)
    | (with_reducible apply jAsg)
    | (with_reducible apply jAsC)
    | (with_reducible apply jSetLast)
    | (with_reducible apply jSetC)
    | (with_reducible exact jWN)
    | (with_reducible apply jWC)
    | (with_reducible exact jNo)
    | (with_reducible apply jNot)
    | (with_reducible apply jNotV)
    | (with_reducible exact setEnd)
    | (with_reducible exact tyI)
    | (with_reducible exact oIsN)
    | (with_reducible exact oIsNotN)
    | (with_reducible exact oIsNotTT)
    | ((with_reducible refine oMul ?_); omega)
    | ((with_reducible apply jInsGt); omega)
    | (with_reducible exact neT2)
    | (with_reducible exact oNeg)
    | (with_reducible exact oNeB)
    | (with_reducible exact oNeL0)
    | (with_reducible exact oNeL1)
    | (with_reducible exact oNeL2)
    | (with_reducible exact oNeR0)
    | ((with_reducible refine oNeT ?_); omega)
    | ((with_reducible refine oNeF ?_); omega)
    | ((with_reducible refine jNeRT ?_); rfl)
    | (with_reducible apply jSq)
    | (with_reducible apply jSqF)
    | (with_reducible apply jUn)
    | (with_reducible exact jMpN)
    | (with_reducible apply jMpC)
    | (with_reducible apply jGTp)
    | ((with_reducible refine oLtT ?_); omega)
    | ((with_reducible refine oLtF ?_); omega)
    | (with_reducible apply jTup)
    | (with_reducible exact oIntI)
    | (with_reducible apply jOr)
    | (with_reducible apply jOrV)
    | (with_reducible exact jLcN)
    | (with_reducible exact jLc2N)
    | (with_reducible apply jLc)
    | (with_reducible apply jLcC)
    | (with_reducible apply jLcK)
    | (with_reducible apply jLc2)
    | (with_reducible apply jLc2C)
    | (with_reducible exact atLast)
    | (with_reducible apply jCh)
    | (with_reducible apply jChK)
    | (with_reducible apply jExpr)
    | (with_reducible exact oSub)
    | (with_reducible exact insNil)
    | ((with_reducible refine insLt ?_); omega)
    | ((with_reducible refine insEq ?_); omega)
    | (with_reducible exact eAsT)
    | (with_reducible exact eAsL)
    | (with_reducible exact kII)
    | (with_reducible exact kIB)
    | (with_reducible exact jGxN)
    | (with_reducible exact jGxM)
    | (with_reducible apply jGx)
    | (with_reducible apply jGxC)
    | (with_reducible apply jGxK)
    | (with_reducible exact oListT)
    | (with_reducible apply jLenT)
    | (with_reducible apply jLenL)
    | (with_reducible apply jLenR)
    | ((with_reducible refine oGtT ?_); omega)
    | ((with_reducible refine oGtF ?_); omega)
    | (with_reducible exact tyT)
    | (with_reducible exact kTT)
    | (with_reducible exact jKret)
    | (with_reducible exact jZN)
    | (with_reducible exact jZN2)
    | (with_reducible apply jZp)
    | (with_reducible apply jZC)
    | (with_reducible exact ssetN)
    | (with_reducible apply jSS)
    | ((with_reducible refine oGeT ?_); omega)
    | ((with_reducible refine oGeF ?_); omega)
    | (with_reducible exact asQT)
    | (with_reducible exact asQL)
    | (with_reducible apply jSlT)
    | ((with_reducible refine oDiv ?_); omega)
    | (with_reducible exact jFret)
    | (with_reducible exact iN1)
    | (with_reducible exact iN2)
    | (with_reducible exact iN3)
    | (with_reducible exact oTupL)
    | (with_reducible exact oTupT)
    | (with_reducible exact tyN)
    | (with_reducible exact tyB)
    | (with_reducible exact kIT)
    | (with_reducible exact kIL)
    | ((with_reducible refine oMaxL ?_); omega)
    | ((with_reducible refine oMaxR ?_); omega)
    | (show Int.toNat _ = _; (try simp only [List.length_cons, List.length_nil, Nat.zero_add, Nat.reduceAdd, Int.cast_ofNat_Int, Int.reduceToNat, Int.reduceSub, Int.toNat_natCast]); (try rfl); done)
    | (show List.length _ = _; (try simp only [List.length_cons, List.length_nil, List.length_append, List.cons_append, List.nil_append, Nat.zero_add, Nat.reduceAdd]); (try rfl); done)
    | (show Nat.ble _ _ = true; rfl)
    | (show atI _ _ = _; rfl)
    | (show one dAll _ _ = _; rfl)
    | (with_reducible rfl)
    | omega
    | with_reducible assumption)) (by repeat' (first
    | (with_reducible exact jSet0)
    | (with_reducible apply jSetS)
    | ((with_reducible apply jVar); rfl)
    | (with_reducible apply jOp)
    | (with_reducible exact eC)
    | (with_reducible apply jCons)
    | (with_reducible exact jNil)
    | (with_reducible apply jSeq)
    | (with_reducible apply jKnx)
    | (with_reducible exact jSt0)
    | (with_reducible apply jStN)
    | (with_reducible apply jStC)
    | ((with_reducible refine jIteT ?hp ?_); case hp => rfl)
    | ((with_reducible refine jIteF ?hp ?_); case hp => exact Bool.false_ne_true)
    | ((with_reducible refine jIteF ?hp ?_); case hp => decide)
    | (with_reducible exact jApN)
    | (with_reducible apply jAppend)
    | (with_reducible apply jApC)
    | (with_reducible exact jGNl)
    | (with_reducible apply jGNm)
    | (with_reducible apply jIxT)
    | (with_reducible apply jIxL)
    | (with_reducible apply jIxR)
    | (with_reducible exact oAdd)
    | (with_reducible exact oTB)
    | (with_reducible apply jTst)
    | (with_reducible apply jIf)
    | (with_reducible apply jIfE)
    | (with_reducible apply jAnd)
    | (with_reducible apply jAndV)
    | (with_reducible apply jCall)
    | (with_reducible apply jSet)
    | (with_reducible exact cellEnd)
    | (with_reducible exact jForN)
    | (with_reducible apply jFor)
    | (with_reducible apply jForC)
    | (with_reducible apply jCB)
    | (with_reducible apply jFnx)
    | (with_reducible exact jSNil)
    | (with_reducible apply jGCs)
    | (with_reducible exact jRN)
    | (with_reducible apply jR1)
    | (with_reducible apply jR2)
    | (with_reducible apply jRS)
    | (with_reducible exact jRetKL)
    | (with_reducible apply jRet)
    | (with_reducible apply jRetF)
    | (with_reducible apply jRetKR)
    | (with_reducible exact oEqB)
    | ((with_reducible refine oEqT ?_); omega)
    | ((with_reducible refine oEqF ?_); omega)
    | (with_reducible exact jTruR0)
    | (with_reducible exact jTruR1)
    | (with_reducible apply jTru)
    | (with_reducible apply jLst)
    | (with_reducible apply jLstM)
    | (with_reducible apply jPar)
    | (with_reducible apply jPar3)
    | (with_reducible apply jPart)
    | (with_reducible apply jIsi)
    | ((with_reducible show atI _ _ = _); rfl)
    | ((with_reducible show Nat.ble _ _ = true); rfl)
    | ((with_reducible refine oMod ?_); omega)
    | (with_reducible apply jAddR)
    | (with_reducible apply jAddL)
    | (with_reducible apply jAddT)
    | ((with_reducible refine oLeT ?_); omega)
    | ((with_reducible refine oLeF ?_); omega)
    | (with_reducible exact jYes)
    | (with_reducible exact jAsN)
    | (with_reducible apply jAsg)
    | (with_reducible apply jAsC)
    | (with_reducible apply jSetLast)
    | (with_reducible apply jSetC)
    | (with_reducible exact jWN)
    | (with_reducible apply jWC)
    | (with_reducible exact jNo)
    | (with_reducible apply jNot)
    | (with_reducible apply jNotV)
    | (with_reducible exact setEnd)
    | (with_reducible exact tyI)
    | (with_reducible exact oIsN)
    | (with_reducible exact oIsNotN)
    | (with_reducible exact oIsNotTT)
    | ((with_reducible refine oMul ?_); omega)
    | ((with_reducible apply jInsGt); omega)
    | (with_reducible exact neT2)
    | (with_reducible exact oNeg)
    | (with_reducible exact oNeB)
    | (with_reducible exact oNeL0)
    | (with_reducible exact oNeL1)
    | (with_reducible exact oNeL2)
    | (with_reducible exact oNeR0)
    | ((with_reducible refine oNeT ?_); omega)
    | ((with_reducible refine oNeF ?_); omega)
    | ((with_reducible refine jNeRT ?_); rfl)
    | (with_reducible apply jSq)
    | (with_reducible apply jSqF)
    | (with_reducible apply jUn)
    | (with_reducible exact jMpN)
    | (with_reducible apply jMpC)
    | (with_reducible apply jGTp)
    | ((with_reducible refine oLtT ?_); omega)
    | ((with_reducible refine oLtF ?_); omega)
    | (with_reducible apply jTup)
    | (with_reducible exact oIntI)
    | (with_reducible apply jOr)
    | (with_reducible apply jOrV)
    | (with_reducible exact jLcN)
    | (with_reducible exact jLc2N)
    | (with_reducible apply jLc)
    | (with_reducible apply jLcC)
    | (with_reducible apply jLcK)
    | (with_reducible apply jLc2)
    | (with_reducible apply jLc2C)
    | (with_reducible exact atLast)
    | (with_reducible apply jCh)
    | (with_reducible apply jChK)
    | (with_reducible apply jExpr)
    | (with_reducible exact oSub)
    | (with_reducible exact insNil)
    | ((with_reducible refine insLt ?_); omega)
    | ((with_reducible refine insEq ?_); omega)
    | (with_reducible exact eAsT)
    | (with_reducible exact eAsL)
    | (with_reducible exact kII)
    | (with_reducible exact kIB)
    | (with_reducible exact jGxN)
    | (with_reducible exact jGxM)
    | (with_reducible apply jGx)
    | (with_reducible apply jGxC)
    | (with_reducible apply jGxK)
    | (with_reducible exact oListT)
    | (with_reducible apply jLenT)
    | (with_reducible apply jLenL)
    | (with_reducible apply jLenR)
    | ((with_reducible refine oGtT ?_); omega)
    | ((with_reducible refine oGtF ?_); omega)
    | (with_reducible exact tyT)
    | (with_reducible exact kTT)
    | (with_reducible exact jKret)
    | (with_reducible exact jZN)
    | (with_reducible exact jZN2)
    | (with_reducible apply jZp)
    | (with_reducible apply jZC)
    | (with_reducible exact ssetN)
    | (with_reducible apply jSS)
    | ((with_reducible refine oGeT ?_); omega)
    | ((with_reducible refine oGeF ?_); omega)
    | (with_reducible exact asQT)
    | (with_reducible exact asQL)
    | (with_reducible apply jSlT)
    | ((with_reducible refine oDiv ?_); omega)
    | (with_reducible exact jFret)
    | (with_reducible exact iN1)
    | (with_reducible exact iN2)
    | (with_reducible exact iN3)
    | (with_reducible exact oTupL)
    | (with_reducible exact oTupT)
    | (with_reducible exact tyN)
    | (with_reducible exact tyB)
    | (with_reducible exact kIT)
    | (with_reducible exact kIL)
    | ((with_reducible refine oMaxL ?_); omega)
    | ((with_reducible refine oMaxR ?_); omega)
    | (show Int.toNat _ = _; (try simp only [List.length_cons, List.length_nil, Nat.zero_add, Nat.reduceAdd, Int.cast_ofNat_Int, Int.reduceToNat, Int.reduceSub, Int.toNat_natCast]); (try rfl); done)
    | (show List.length _ = _; (try simp only [List.length_cons, List.length_nil, List.length_append, List.cons_append, List.nil_append, Nat.zero_add, Nat.reduceAdd]); (try rfl); done)
    | (show Nat.ble _ _ = true; rfl)
    | (show atI _ _ = _; rfl)
    | (show one dAll _ _ = _; rfl)
    | (with_reducible rfl)
    | omega
    | with_reducible assumption))) hS ?_, ?_⟩
    · rfl
    · rfl
  have e3 : F_bursts_of [.tup [], .tup [.int f, .int g], .int b] S = some (.lst [.tup [.int f, .int g]], S) := by
    repeat' (first
    | (with_reducible exact e1)
    | (with_reducible exact e2)
    | (with_reducible apply run_bursts_of)
    | (with_reducible exact jSet0)
    | (with_reducible apply jSetS)
    | ((with_reducible apply jVar); rfl)
    | (with_reducible apply jOp)
    | (with_reducible exact eC)
    | (with_reducible apply jCons)
    | (with_reducible exact jNil)
    | (with_reducible apply jSeq)
    | (with_reducible apply jKnx)
    | (with_reducible exact jSt0)
    | (with_reducible apply jStN)
    | (with_reducible apply jStC)
    | ((with_reducible refine jIteT ?hp ?_); case hp => rfl)
    | ((with_reducible refine jIteF ?hp ?_); case hp => exact Bool.false_ne_true)
    | ((with_reducible refine jIteF ?hp ?_); case hp => decide)
    | (with_reducible exact jApN)
    | (with_reducible apply jAppend)
    | (with_reducible apply jApC)
    | (with_reducible exact jGNl)
    | (with_reducible apply jGNm)
    | (with_reducible apply jIxT)
    | (with_reducible apply jIxL)
    | (with_reducible apply jIxR)
    | (with_reducible exact oAdd)
    | (with_reducible exact oTB)
    | (with_reducible apply jTst)
    | (with_reducible apply jIf)
    | (with_reducible apply jIfE)
    | (with_reducible apply jAnd)
    | (with_reducible apply jAndV)
    | (with_reducible apply jCall)
    | (with_reducible apply jSet)
    | (with_reducible exact cellEnd)
    | (with_reducible exact jForN)
    | (with_reducible apply jFor)
    | (with_reducible apply jForC)
    | (with_reducible apply jCB)
    | (with_reducible apply jFnx)
    | (with_reducible exact jSNil)
    | (with_reducible apply jGCs)
    | (with_reducible exact jRN)
    | (with_reducible apply jR1)
    | (with_reducible apply jR2)
    | (with_reducible apply jRS)
    | (with_reducible exact jRetKL)
    | (with_reducible apply jRet)
    | (with_reducible apply jRetF)
    | (with_reducible apply jRetKR)
    | (with_reducible exact oEqB)
    | ((with_reducible refine oEqT ?_); omega)
    | ((with_reducible refine oEqF ?_); omega)
    | (with_reducible exact jTruR0)
    | (with_reducible exact jTruR1)
    | (with_reducible apply jTru)
    | (with_reducible apply jLst)
    | (with_reducible apply jLstM)
    | (with_reducible apply jPar)
    | (with_reducible apply jPar3)
    | (with_reducible apply jPart)
    | (with_reducible apply jIsi)
    | ((with_reducible show atI _ _ = _); rfl)
    | ((with_reducible show Nat.ble _ _ = true); rfl)
    | ((with_reducible refine oMod ?_); omega)
    | (with_reducible apply jAddR)
    | (with_reducible apply jAddL)
    | (with_reducible apply jAddT)
    | ((with_reducible refine oLeT ?_); omega)
    | ((with_reducible refine oLeF ?_); omega)
    | (with_reducible exact jYes)
    | (with_reducible exact jAsN)
    | (with_reducible apply jAsg)
    | (with_reducible apply jAsC)
    | (with_reducible apply jSetLast)
    | (with_reducible apply jSetC)
    | (with_reducible exact jWN)
    | (with_reducible apply jWC)
    | (with_reducible exact jNo)
    | (with_reducible apply jNot)
    | (with_reducible apply jNotV)
    | (with_reducible exact setEnd)
    | (with_reducible exact tyI)
    | (with_reducible exact oIsN)
    | (with_reducible exact oIsNotN)
    | (with_reducible exact oIsNotTT)
    | ((with_reducible refine oMul ?_); omega)
    | ((with_reducible apply jInsGt); omega)
    | (with_reducible exact neT2)
    | (with_reducible exact oNeg)
    | (with_reducible exact oNeB)
    | (with_reducible exact oNeL0)
    | (with_reducible exact oNeL1)
    | (with_reducible exact oNeL2)
    | (with_reducible exact oNeR0)
    | ((with_reducible refine oNeT ?_); omega)
    | ((with_reducible refine oNeF ?_); omega)
    | ((with_reducible refine jNeRT ?_); rfl)
    | (with_reducible apply jSq)
    | (with_reducible apply jSqF)
    | (with_reducible apply jUn)
    | (with_reducible exact jMpN)
    | (with_reducible apply jMpC)
    | (with_reducible apply jGTp)
    | ((with_reducible refine oLtT ?_); omega)
    | ((with_reducible refine oLtF ?_); omega)
    | (with_reducible apply jTup)
    | (with_reducible exact oIntI)
    | (with_reducible apply jOr)
    | (with_reducible apply jOrV)
    | (with_reducible exact jLcN)
    | (with_reducible exact jLc2N)
    | (with_reducible apply jLc)
    | (with_reducible apply jLcC)
    | (with_reducible apply jLcK)
    | (with_reducible apply jLc2)
    | (with_reducible apply jLc2C)
    | (with_reducible exact atLast)
    | (with_reducible apply jCh)
    | (with_reducible apply jChK)
    | (with_reducible apply jExpr)
    | (with_reducible exact oSub)
    | (with_reducible exact insNil)
    | ((with_reducible refine insLt ?_); omega)
    | ((with_reducible refine insEq ?_); omega)
    | (with_reducible exact eAsT)
    | (with_reducible exact eAsL)
    | (with_reducible exact kII)
    | (with_reducible exact kIB)
    | (with_reducible exact jGxN)
    | (with_reducible exact jGxM)
    | (with_reducible apply jGx)
    | (with_reducible apply jGxC)
    | (with_reducible apply jGxK)
    | (with_reducible exact oListT)
    | (with_reducible apply jLenT)
    | (with_reducible apply jLenL)
    | (with_reducible apply jLenR)
    | ((with_reducible refine oGtT ?_); omega)
    | ((with_reducible refine oGtF ?_); omega)
    | (with_reducible exact tyT)
    | (with_reducible exact kTT)
    | (with_reducible exact jKret)
    | (with_reducible exact jZN)
    | (with_reducible exact jZN2)
    | (with_reducible apply jZp)
    | (with_reducible apply jZC)
    | (with_reducible exact ssetN)
    | (with_reducible apply jSS)
    | ((with_reducible refine oGeT ?_); omega)
    | ((with_reducible refine oGeF ?_); omega)
    | (with_reducible exact asQT)
    | (with_reducible exact asQL)
    | (with_reducible apply jSlT)
    | ((with_reducible refine oDiv ?_); omega)
    | (with_reducible exact jFret)
    | (with_reducible exact iN1)
    | (with_reducible exact iN2)
    | (with_reducible exact iN3)
    | (with_reducible exact oTupL)
    | (with_reducible exact oTupT)
    | (with_reducible exact tyN)
    | (with_reducible exact tyB)
    | (with_reducible exact kIT)
    | (with_reducible exact kIL)
    | ((with_reducible refine oMaxL ?_); omega)
    | ((with_reducible refine oMaxR ?_); omega)
    | (show Int.toNat _ = _; (try simp only [List.length_cons, List.length_nil, Nat.zero_add, Nat.reduceAdd, Int.cast_ofNat_Int, Int.reduceToNat, Int.reduceSub, Int.toNat_natCast]); (try rfl); done)
    | (show List.length _ = _; (try simp only [List.length_cons, List.length_nil, List.length_append, List.cons_append, List.nil_append, Nat.zero_add, Nat.reduceAdd]); (try rfl); done)
    | (show Nat.ble _ _ = true; rfl)
    | (show atI _ _ = _; rfl)
    | (show one dAll _ _ = _; rfl)
    | (with_reducible rfl)
    | omega
    | with_reducible assumption)
  repeat' (first
    | (with_reducible exact e3)
    | (with_reducible exact e2)
    | (with_reducible apply run_fits_signal)
    | (with_reducible apply run_is_quiet_about)
    | (with_reducible exact jSet0)
    | (with_reducible apply jSetS)
    | ((with_reducible apply jVar); rfl)
    | (with_reducible apply jOp)
    | (with_reducible exact eC)
    | (with_reducible apply jCons)
    | (with_reducible exact jNil)
    | (with_reducible apply jSeq)
    | (with_reducible apply jKnx)
    | (with_reducible exact jSt0)
    | (with_reducible apply jStN)
    | (with_reducible apply jStC)
    | ((with_reducible refine jIteT ?hp ?_); case hp => rfl)
    | ((with_reducible refine jIteF ?hp ?_); case hp => exact Bool.false_ne_true)
    | ((with_reducible refine jIteF ?hp ?_); case hp => decide)
    | (with_reducible exact jApN)
    | (with_reducible apply jAppend)
    | (with_reducible apply jApC)
    | (with_reducible exact jGNl)
    | (with_reducible apply jGNm)
    | (with_reducible apply jIxT)
    | (with_reducible apply jIxL)
    | (with_reducible apply jIxR)
    | (with_reducible exact oAdd)
    | (with_reducible exact oTB)
    | (with_reducible apply jTst)
    | (with_reducible apply jIf)
    | (with_reducible apply jIfE)
    | (with_reducible apply jAnd)
    | (with_reducible apply jAndV)
    | (with_reducible apply jCall)
    | (with_reducible apply jSet)
    | (with_reducible exact cellEnd)
    | (with_reducible exact jForN)
    | (with_reducible apply jFor)
    | (with_reducible apply jForC)
    | (with_reducible apply jCB)
    | (with_reducible apply jFnx)
    | (with_reducible exact jSNil)
    | (with_reducible apply jGCs)
    | (with_reducible exact jRN)
    | (with_reducible apply jR1)
    | (with_reducible apply jR2)
    | (with_reducible apply jRS)
    | (with_reducible exact jRetKL)
    | (with_reducible apply jRet)
    | (with_reducible apply jRetF)
    | (with_reducible apply jRetKR)
    | (with_reducible exact oEqB)
    | ((with_reducible refine oEqT ?_); omega)
    | ((with_reducible refine oEqF ?_); omega)
    | (with_reducible exact jTruR0)
    | (with_reducible exact jTruR1)
    | (with_reducible apply jTru)
    | (with_reducible apply jLst)
    | (with_reducible apply jLstM)
    | (with_reducible apply jPar)
    | (with_reducible apply jPar3)
    | (with_reducible apply jPart)
    | (with_reducible apply jIsi)
    | ((with_reducible show atI _ _ = _); rfl)
    | ((with_reducible show Nat.ble _ _ = true); rfl)
    | ((with_reducible refine oMod ?_); omega)
    | (with_reducible apply jAddR)
    | (with_reducible apply jAddL)
    | (with_reducible apply jAddT)
    | ((with_reducible refine oLeT ?_); omega)
    | ((with_reducible refine oLeF ?_); omega)
    | (with_reducible exact jYes)
    | (with_reducible exact jAsN)
    | (with_reducible apply jAsg)
    | (with_reducible apply jAsC)
    | (with_reducible apply jSetLast)
    | (with_reducible apply jSetC)
    | (with_reducible exact jWN)
    | (with_reducible apply jWC)
    | (with_reducible exact jNo)
    | (with_reducible apply jNot)
    | (with_reducible apply jNotV)
    | (with_reducible exact setEnd)
    | (with_reducible exact tyI)
    | (with_reducible exact oIsN)
    | (with_reducible exact oIsNotN)
    | (with_reducible exact oIsNotTT)
    | ((with_reducible refine oMul ?_); omega)
    | ((with_reducible apply jInsGt); omega)
    | (with_reducible exact neT2)
    | (with_reducible exact oNeg)
    | (with_reducible exact oNeB)
    | (with_reducible exact oNeL0)
    | (with_reducible exact oNeL1)
    | (with_reducible exact oNeL2)
    | (with_reducible exact oNeR0)
    | ((with_reducible refine oNeT ?_); omega)
    | ((with_reducible refine oNeF ?_); omega)
    | ((with_reducible refine jNeRT ?_); rfl)
    | (with_reducible apply jSq)
    | (with_reducible apply jSqF)
    | (with_reducible apply jUn)
    | (with_reducible exact jMpN)
    | (with_reducible apply jMpC)
    | (with_reducible apply jGTp)
    | ((with_reducible refine oLtT ?_); omega)
    | ((with_reducible refine oLtF ?_); omega)
    | (with_reducible apply jTup)
    | (with_reducible exact oIntI)
    | (with_reducible apply jOr)
    | (with_reducible apply jOrV)
    | (with_reducible exact jLcN)
    | (with_reducible exact jLc2N)
    | (with_reducible apply jLc)
    | (with_reducible apply jLcC)
    | (with_reducible apply jLcK)
    | (with_reducible apply jLc2)
    | (with_reducible apply jLc2C)
    | (with_reducible exact atLast)
    | (with_reducible apply jCh)
    | (with_reducible apply jChK)
    | (with_reducible apply jExpr)
    | (with_reducible exact oSub)
    | (with_reducible exact insNil)
    | ((with_reducible refine insLt ?_); omega)
    | ((with_reducible refine insEq ?_); omega)
    | (with_reducible exact eAsT)
    | (with_reducible exact eAsL)
    | (with_reducible exact kII)
    | (with_reducible exact kIB)
    | (with_reducible exact jGxN)
    | (with_reducible exact jGxM)
    | (with_reducible apply jGx)
    | (with_reducible apply jGxC)
    | (with_reducible apply jGxK)
    | (with_reducible exact oListT)
    | (with_reducible apply jLenT)
    | (with_reducible apply jLenL)
    | (with_reducible apply jLenR)
    | ((with_reducible refine oGtT ?_); omega)
    | ((with_reducible refine oGtF ?_); omega)
    | (with_reducible exact tyT)
    | (with_reducible exact kTT)
    | (with_reducible exact jKret)
    | (with_reducible exact jZN)
    | (with_reducible exact jZN2)
    | (with_reducible apply jZp)
    | (with_reducible apply jZC)
    | (with_reducible exact ssetN)
    | (with_reducible apply jSS)
    | ((with_reducible refine oGeT ?_); omega)
    | ((with_reducible refine oGeF ?_); omega)
    | (with_reducible exact asQT)
    | (with_reducible exact asQL)
    | (with_reducible apply jSlT)
    | ((with_reducible refine oDiv ?_); omega)
    | (with_reducible exact jFret)
    | (with_reducible exact iN1)
    | (with_reducible exact iN2)
    | (with_reducible exact iN3)
    | (with_reducible exact oTupL)
    | (with_reducible exact oTupT)
    | (with_reducible exact tyN)
    | (with_reducible exact tyB)
    | (with_reducible exact kIT)
    | (with_reducible exact kIL)
    | ((with_reducible refine oMaxL ?_); omega)
    | ((with_reducible refine oMaxR ?_); omega)
    | (show Int.toNat _ = _; (try simp only [List.length_cons, List.length_nil, Nat.zero_add, Nat.reduceAdd, Int.cast_ofNat_Int, Int.reduceToNat, Int.reduceSub, Int.toNat_natCast]); (try rfl); done)
    | (show List.length _ = _; (try simp only [List.length_cons, List.length_nil, List.length_append, List.cons_append, List.nil_append, Nat.zero_add, Nat.reduceAdd]); (try rfl); done)
    | (show Nat.ble _ _ = true; rfl)
    | (show atI _ _ = _; rfl)
    | (show one dAll _ _ = _; rfl)
    | (with_reducible rfl)
    | omega
    | with_reducible assumption)
theorem ev_fitsB (f g h i b n q : Int) (S : Store) (hh : 0 < f ∧ f < h ∧ h < i ∧ i ≤ f + b ∧ f + b < g ∧ g + b < 100000) (hS : Sok S = true) : F_fits_signal [.tup [.int f, .int g], .tup [.int f, .int h, .int i, .int g], .tup [.int b, .int n, .int q]] S = some (.bl true, S) := by
  obtain ⟨r, e1, rfl⟩ : ∃ r, F_wrong_spans [.tup [.int f, .int g], .tup [.int f, .int h, .int i, .int g]] S = some (.lst r, S) ∧ r = [.tup [.int h, .int i]] := by
    refine ⟨_, gc_eq (R := [.dead]) (run_wrong_spans rfl (by repeat' (first
    | (with_reducible exact jSet0)
    | (with_reducible apply jSetS)
    | ((with_reducible apply jVar); rfl)
    | (with_reducible apply jOp)
    | (with_reducible exact eC)
    | (with_reducible apply jCons)
    | (with_reducible exact jNil)
    | (with_reducible apply jSeq)
    | (with_reducible apply jKnx)
    | (with_reducible exact jSt0)
    | (with_reducible apply jStN)
    | (with_reducible apply jStC)
    | ((with_reducible refine jIteT ?hp ?_); case hp => rfl)
    | ((with_reducible refine jIteF ?hp ?_); case hp => exact Bool.false_ne_true)
    | ((with_reducible refine jIteF ?hp ?_); case hp => decide)
    | (with_reducible exact jApN)
    | (with_reducible apply jAppend)
    | (with_reducible apply jApC)
    | (with_reducible exact jGNl)
    | (with_reducible apply jGNm)
    | (with_reducible apply jIxT)
    | (with_reducible apply jIxL)
    | (with_reducible apply jIxR)
    | (with_reducible exact oAdd)
    | (with_reducible exact oTB)
    | (with_reducible apply jTst)
    | (with_reducible apply jIf)
    | (with_reducible apply jIfE)
    | (with_reducible apply jAnd)
    | (with_reducible apply jAndV)
    | (with_reducible apply jCall)
    | (with_reducible apply jSet)
    | (with_reducible exact cellEnd)
    | (with_reducible exact jForN)
    | (with_reducible apply jFor)
    | (with_reducible apply jForC)
    | (with_reducible apply jCB)
    | (with_reducible apply jFnx)
    | (with_reducible exact jSNil)
    | (with_reducible apply jGCs)
    | (with_reducible exact jRN)
    | (with_reducible apply jR1)
    | (with_reducible apply jR2)
    | (with_reducible apply jRS)
    | (with_reducible exact jRetKL)
    | (with_reducible apply jRet)
    | (with_reducible apply jRetF)
    | (with_reducible apply jRetKR)
    | (with_reducible exact oEqB)
    | ((with_reducible refine oEqT ?_); omega)
    | ((with_reducible refine oEqF ?_); omega)
    | (with_reducible exact jTruR0)
    | (with_reducible exact jTruR1)
    | (with_reducible apply jTru)
    | (with_reducible apply jLst)
    | (with_reducible apply jLstM)
    | (with_reducible apply jPar)
    | (with_reducible apply jPar3)
    | (with_reducible apply jPart)
    | (with_reducible apply jIsi)
    | ((with_reducible show atI _ _ = _); rfl)
    | ((with_reducible show Nat.ble _ _ = true); rfl)
    | ((with_reducible refine oMod ?_); omega)
    | (with_reducible apply jAddR)
    | (with_reducible apply jAddL)
    | (with_reducible apply jAddT)
    | ((with_reducible refine oLeT ?_); omega)
    | ((with_reducible refine oLeF ?_); omega)
    | (with_reducible exact jYes)
    | (with_reducible exact jAsN)
    | (with_reducible apply jAsg)
    | (with_reducible apply jAsC)
    | (with_reducible apply jSetLast)
    | (with_reducible apply jSetC)
    | (with_reducible exact jWN)
    | (with_reducible apply jWC)
    | (with_reducible exact jNo)
    | (with_reducible apply jNot)
    | (with_reducible apply jNotV)
    | (with_reducible exact setEnd)
    | (with_reducible exact tyI)
    | (with_reducible exact oIsN)
    | (with_reducible exact oIsNotN)
    | (with_reducible exact oIsNotTT)
    | ((with_reducible refine oMul ?_); omega)
    | ((with_reducible apply jInsGt); omega)
    | (with_reducible exact neT2)
    | (with_reducible exact oNeg)
    | (with_reducible exact oNeB)
    | (with_reducible exact oNeL0)
    | (with_reducible exact oNeL1)
    | (with_reducible exact oNeL2)
    | (with_reducible exact oNeR0)
    | ((with_reducible refine oNeT ?_); omega)
    | ((with_reducible refine oNeF ?_); omega)
    | ((with_reducible refine jNeRT ?_); rfl)
    | (with_reducible apply jSq)
    | (with_reducible apply jSqF)
    | (with_reducible apply jUn)
    | (with_reducible exact jMpN)
    | (with_reducible apply jMpC)
    | (with_reducible apply jGTp)
    | ((with_reducible refine oLtT ?_); omega)
    | ((with_reducible refine oLtF ?_); omega)
    | (with_reducible apply jTup)
    | (with_reducible exact oIntI)
    | (with_reducible apply jOr)
    | (with_reducible apply jOrV)
    | (with_reducible exact jLcN)
    | (with_reducible exact jLc2N)
    | (with_reducible apply jLc)
    | (with_reducible apply jLcC)
    | (with_reducible apply jLcK)
    | (with_reducible apply jLc2)
    | (with_reducible apply jLc2C)
    | (with_reducible exact atLast)
    | (with_reducible apply jCh)
    | (with_reducible apply jChK)
    | (with_reducible apply jExpr)
    | (with_reducible exact oSub)
    | (with_reducible exact insNil)
    | ((with_reducible refine insLt ?_); omega)
    | ((with_reducible refine insEq ?_); omega)
    | (with_reducible exact eAsT)
    | (with_reducible exact eAsL)
    | (with_reducible exact kII)
    | (with_reducible exact kIB)
    | (with_reducible exact jGxN)
    | (with_reducible exact jGxM)
    | (with_reducible apply jGx)
    | (with_reducible apply jGxC)
    | (with_reducible apply jGxK)
    | (with_reducible exact oListT)
    | (with_reducible apply jLenT)
    | (with_reducible apply jLenL)
    | (with_reducible apply jLenR)
    | ((with_reducible refine oGtT ?_); omega)
    | ((with_reducible refine oGtF ?_); omega)
    | (with_reducible exact tyT)
    | (with_reducible exact kTT)
    | (with_reducible exact jKret)
    | (with_reducible exact jZN)
    | (with_reducible exact jZN2)
    | (with_reducible apply jZp)
    | (with_reducible apply jZC)
    | (with_reducible exact ssetN)
    | (with_reducible apply jSS)
    | ((with_reducible refine oGeT ?_); omega)
    | ((with_reducible refine oGeF ?_); omega)
    | (with_reducible exact asQT)
    | (with_reducible exact asQL)
    | (with_reducible apply jSlT)
    | ((with_reducible refine oDiv ?_); omega)
    | (with_reducible exact jFret)
    | (with_reducible exact iN1)
    | (with_reducible exact iN2)
    | (with_reducible exact iN3)
    | (with_reducible exact oTupL)
    | (with_reducible exact oTupT)
    | (with_reducible exact tyN)
    | (with_reducible exact tyB)
    | (with_reducible exact kIT)
    | (with_reducible exact kIL)
    | ((with_reducible refine oMaxL ?_); omega)
    | ((with_reducible refine oMaxR ?_); omega)
    | (show Int.toNat _ = _; (try simp only [List.length_cons, List.length_nil, Nat.zero_add, Nat.reduceAdd, Int.cast_ofNat_Int, Int.reduceToNat, Int.reduceSub, Int.toNat_natCast]); (try rfl); done)
    | (show List.length _ = _; (try simp only [List.length_cons, List.length_nil, List.length_append, List.cons_append, List.nil_append, Nat.zero_add, Nat.reduceAdd]); (try rfl); done)
    | (show Nat.ble _ _ = true; rfl)
    | (show atI _ _ = _; rfl)
    | (show one dAll _ _ = _; rfl)
    | (with_reducible rfl)
    | omega
    | with_reducible assumption)) (by repeat' (first
    | ((with_reducible exact jCl0))
    | (with_reducible apply jCl2)
    | (with_reducible apply jCl4)
    | (with_reducible exact jUp0)
    | (with_reducible apply jUp2)
    | (with_reducible apply jUp4)
    | ((with_reducible refine upB_t ?_); (simp (disch := omega) only [cntN, cntT, cntF, Nat.zero_add, Nat.reduceAdd, Nat.reduceMod]; done))
    | ((with_reducible refine upB_f ?_); (simp (disch := omega) only [cntN, cntT, cntF, Nat.zero_add, Nat.reduceAdd, Nat.reduceMod]; done))
    | (with_reducible exact jSet0)
    | (with_reducible apply jSetS)
    | ((with_reducible apply jVar); rfl)
    | (with_reducible apply jOp)
    | (with_reducible exact eC)
    | (with_reducible apply jCons)
    | (with_reducible exact jNil)
    | (with_reducible apply jSeq)
    | (with_reducible apply jKnx)
    | (with_reducible exact jSt0)
    | (with_reducible apply jStN)
    | (with_reducible apply jStC)
    | ((with_reducible refine jIteT ?hp ?_); case hp => rfl)
    | ((with_reducible refine jIteF ?hp ?_); case hp => exact Bool.false_ne_true)
    | ((with_reducible refine jIteF ?hp ?_); case hp => decide)
    | (with_reducible exact jApN)
    | (with_reducible apply jAppend)
    | (with_reducible apply jApC)
    | (with_reducible exact jGNl)
    | (with_reducible apply jGNm)
    | (with_reducible apply jIxT)
    | (with_reducible apply jIxL)
    | (with_reducible apply jIxR)
    | (with_reducible exact oAdd)
    | (with_reducible exact oTB)
    | (with_reducible apply jTst)
    | (with_reducible apply jIf)
    | (with_reducible apply jIfE)
    | (with_reducible apply jAnd)
    | (with_reducible apply jAndV)
    | (with_reducible apply jCall)
    | (with_reducible apply jSet)
    | (with_reducible exact cellEnd)
    | (with_reducible exact jForN)
    | (with_reducible apply jFor)
    | (with_reducible apply jForC)
    | (with_reducible apply jCB)
    | (with_reducible apply jFnx)
    | (with_reducible exact jSNil)
    | (with_reducible apply jGCs)
    | (with_reducible exact jRN)
    | (with_reducible apply jR1)
    | (with_reducible apply jR2)
    | (with_reducible apply jRS)
    | (with_reducible exact jRetKL)
    | (with_reducible apply jRet)
    | (with_reducible apply jRetF)
    | (with_reducible apply jRetKR)
    | (with_reducible exact oEqB)
    | ((with_reducible refine oEqT ?_); omega)
    | ((with_reducible refine oEqF ?_); omega)
    | (with_reducible exact jTruR0)
    | (with_reducible exact jTruR1)
    | (with_reducible apply jTru)
    | (with_reducible apply jLst)
    | (with_reducible apply jLstM)
    | (with_reducible apply jPar)
    | (with_reducible apply jPar3)
    | (with_reducible apply jPart)
    | (with_reducible apply jIsi)
    | ((with_reducible show atI _ _ = _); rfl)
    | ((with_reducible show Nat.ble _ _ = true); rfl)
    | ((with_reducible refine oMod ?_); omega)
    | (with_reducible apply jAddR)
    | (with_reducible apply jAddL)
    | (with_reducible apply jAddT)
    | ((with_reducible refine oLeT ?_); omega)
    | ((with_reducible refine oLeF ?_); omega)
    | (with_reducible exact jYes)
    | (with_reducible exact jAsN)
    | (with_reducible apply jAsg)
    | (with_reducible apply jAsC)
    | (with_reducible apply jSetLast)
    | (with_reducible apply jSetC)
    | (with_reducible exact jWN)
    | (with_reducible apply jWC)
    | (with_reducible exact jNo)
    | (with_reducible apply jNot)
    | (with_reducible apply jNotV)
    | (with_reducible exact setEnd)
    | (with_reducible exact tyI)
    | (with_reducible exact oIsN)
    | (with_reducible exact oIsNotN)
    | (with_reducible exact oIsNotTT)
    | ((with_reducible refine oMul ?_); omega)
    | ((with_reducible apply jInsGt); omega)
    | (with_reducible exact neT2)
    | (with_reducible exact oNeg)
    | (with_reducible exact oNeB)
    | (with_reducible exact oNeL0)
    | (with_reducible exact oNeL1)
    | (with_reducible exact oNeL2)
    | (with_reducible exact oNeR0)
    | ((with_reducible refine oNeT ?_); omega)
    | ((with_reducible refine oNeF ?_); omega)
    | ((with_reducible refine jNeRT ?_); rfl)
    | (with_reducible apply jSq)
    | (with_reducible apply jSqF)
    | (with_reducible apply jUn)
    | (with_reducible exact jMpN)
    | (with_reducible apply jMpC)
    | (with_reducible apply jGTp)
    | ((with_reducible refine oLtT ?_); omega)
    | ((with_reducible refine oLtF ?_); omega)
    | (with_reducible apply jTup)
    | (with_reducible exact oIntI)
    | (with_reducible apply jOr)
    | (with_reducible apply jOrV)
    | (with_reducible exact jLcN)
    | (with_reducible exact jLc2N)
    | (with_reducible apply jLc)
    | (with_reducible apply jLcC)
    | (with_reducible apply jLcK)
    | (with_reducible apply jLc2)
    | (with_reducible apply jLc2C)
    | (with_reducible exact atLast)
    | (with_reducible apply jCh)
    | (with_reducible apply jChK)
    | (with_reducible apply jExpr)
    | (with_reducible exact oSub)
    | (with_reducible exact insNil)
    | ((with_reducible refine insLt ?_); omega)
    | ((with_reducible refine insEq ?_); omega)
    | (with_reducible exact eAsT)
    | (with_reducible exact eAsL)
    | (with_reducible exact kII)
    | (with_reducible exact kIB)
    | (with_reducible exact jGxN)
    | (with_reducible exact jGxM)
    | (with_reducible apply jGx)
    | (with_reducible apply jGxC)
    | (with_reducible apply jGxK)
    | (with_reducible exact oListT)
    | (with_reducible apply jLenT)
    | (with_reducible apply jLenL)
    | (with_reducible apply jLenR)
    | ((with_reducible refine oGtT ?_); omega)
    | ((with_reducible refine oGtF ?_); omega)
    | (with_reducible exact tyT)
    | (with_reducible exact kTT)
    | (with_reducible exact jKret)
    | (with_reducible exact jZN)
    | (with_reducible exact jZN2)
    | (with_reducible apply jZp)
    | (with_reducible apply jZC)
    | (with_reducible exact ssetN)
    | (with_reducible apply jSS)
    | ((with_reducible refine oGeT ?_); omega)
    | ((with_reducible refine oGeF ?_); omega)
    | (with_reducible exact asQT)
    | (with_reducible exact asQL)
    | (with_reducible apply jSlT)
    | ((with_reducible refine oDiv ?_); omega)
    | (with_reducible exact jFret)
    | (with_reducible exact iN1)
    | (with_reducible exact iN2)
    | (with_reducible exact iN3)
    | (with_reducible exact oTupL)
    | (with_reducible exact oTupT)
    | (with_reducible exact tyN)
    | (with_reducible exact tyB)
    | (with_reducible exact kIT)
    | (with_reducible exact kIL)
    | ((with_reducible refine oMaxL ?_); omega)
    | ((with_reducible refine oMaxR ?_); omega)
    | (show Int.toNat _ = _; (try simp only [List.length_cons, List.length_nil, Nat.zero_add, Nat.reduceAdd, Int.cast_ofNat_Int, Int.reduceToNat, Int.reduceSub, Int.toNat_natCast]); (try rfl); done)
    | (show List.length _ = _; (try simp only [List.length_cons, List.length_nil, List.length_append, List.cons_append, List.nil_append, Nat.zero_add, Nat.reduceAdd]); (try rfl); done)
    | (show Nat.ble _ _ = true; rfl)
    | (show atI _ _ = _; rfl)
    | (show one dAll _ _ = _; rfl)
    | (with_reducible rfl)
    | omega
    | with_reducible assumption))) hS ?_, ?_⟩
    · rfl
    · rfl
  obtain ⟨r, e2, rfl⟩ : ∃ r, F_bounce_spans [.tup [.int f, .int g], .int b] S = some (.lst r, S) ∧ r = [.tup [.int f, .int (f + b)], .tup [.int g, .int (g + b)]] := by
    refine ⟨_, gc_eq (R := [.dead]) (run_bounce_spans rfl (by repeat' (first
    | (with_reducible exact jSet0)
    | (with_reducible apply jSetS)
    | ((with_reducible apply jVar); rfl)
    | (with_reducible apply jOp)
    | (with_reducible exact eC)
    | (with_reducible apply jCons)
    | (with_reducible exact jNil)
    | (with_reducible apply jSeq)
    | (with_reducible apply jKnx)
    | (with_reducible exact jSt0)
    | (with_reducible apply jStN)
    | (with_reducible apply jStC)
    | ((with_reducible refine jIteT ?hp ?_); case hp => rfl)
    | ((with_reducible refine jIteF ?hp ?_); case hp => exact Bool.false_ne_true)
    | ((with_reducible refine jIteF ?hp ?_); case hp => decide)
    | (with_reducible exact jApN)
    | (with_reducible apply jAppend)
    | (with_reducible apply jApC)
    | (with_reducible exact jGNl)
    | (with_reducible apply jGNm)
    | (with_reducible apply jIxT)
    | (with_reducible apply jIxL)
    | (with_reducible apply jIxR)
    | (with_reducible exact oAdd)
    | (with_reducible exact oTB)
    | (with_reducible apply jTst)
    | (with_reducible apply jIf)
    | (with_reducible apply jIfE)
    | (with_reducible apply jAnd)
    | (with_reducible apply jAndV)
    | (with_reducible apply jCall)
    | (with_reducible apply jSet)
    | (with_reducible exact cellEnd)
    | (with_reducible exact jForN)
    | (with_reducible apply jFor)
    | (with_reducible apply jForC)
    | (with_reducible apply jCB)
    | (with_reducible apply jFnx)
    | (with_reducible exact jSNil)
    | (with_reducible apply jGCs)
    | (with_reducible exact jRN)
    | (with_reducible apply jR1)
    | (with_reducible apply jR2)
    | (with_reducible apply jRS)
    | (with_reducible exact jRetKL)
    | (with_reducible apply jRet)
    | (with_reducible apply jRetF)
    | (with_reducible apply jRetKR)
    | (with_reducible exact oEqB)
    | ((with_reducible refine oEqT ?_); omega)
    | ((with_reducible refine oEqF ?_); omega)
    | (with_reducible exact jTruR0)
    | (with_reducible exact jTruR1)
    | (with_reducible apply jTru)
    | (with_reducible apply jLst)
    | (with_reducible apply jLstM)
    | (with_reducible apply jPar)
    | (with_reducible apply jPar3)
    | (with_reducible apply jPart)
    | (with_reducible apply jIsi)
    | ((with_reducible show atI _ _ = _); rfl)
    | ((with_reducible show Nat.ble _ _ = true); rfl)
    | ((with_reducible refine oMod ?_); omega)
    | (with_reducible apply jAddR)
    | (with_reducible apply jAddL)
    | (with_reducible apply jAddT)
    | ((with_reducible refine oLeT ?_); omega)
    | ((with_reducible refine oLeF ?_); omega)
    | (with_reducible exact jYes)
    | (with_reducible exact jAsN)
    | (with_reducible apply jAsg)
    | (with_reducible apply jAsC)
    | (with_reducible apply jSetLast)
    | (with_reducible apply jSetC)
    | (with_reducible exact jWN)
    | (with_reducible apply jWC)
    | (with_reducible exact jNo)
    | (with_reducible apply jNot)
    | (with_reducible apply jNotV)
    | (with_reducible exact setEnd)
    | (with_reducible exact tyI)
    | (with_reducible exact oIsN)
    | (with_reducible exact oIsNotN)
    | (with_reducible exact oIsNotTT)
    | ((with_reducible refine oMul ?_); omega)
    | ((with_reducible apply jInsGt); omega)
    | (with_reducible exact neT2)
    | (with_reducible exact oNeg)
    | (with_reducible exact oNeB)
    | (with_reducible exact oNeL0)
    | (with_reducible exact oNeL1)
    | (with_reducible exact oNeL2)
    | (with_reducible exact oNeR0)
    | ((with_reducible refine oNeT ?_); omega)
    | ((with_reducible refine oNeF ?_); omega)
    | ((with_reducible refine jNeRT ?_); rfl)
    | (with_reducible apply jSq)
    | (with_reducible apply jSqF)
    | (with_reducible apply jUn)
    | (with_reducible exact jMpN)
    | (with_reducible apply jMpC)
    | (with_reducible apply jGTp)
    | ((with_reducible refine oLtT ?_); omega)
    | ((with_reducible refine oLtF ?_); omega)
    | (with_reducible apply jTup)
    | (with_reducible exact oIntI)
    | (with_reducible apply jOr)
    | (with_reducible apply jOrV)
    | (with_reducible exact jLcN)
    | (with_reducible exact jLc2N)
    | (with_reducible apply jLc)
    | (with_reducible apply jLcC)
    | (with_reducible apply jLcK)
    | (with_reducible apply jLc2)
    | (with_reducible apply jLc2C)
    | (with_reducible exact atLast)
    | (with_reducible apply jCh)
    | (with_reducible apply jChK)
    | (with_reducible apply jExpr)
    | (with_reducible exact oSub)
    | (with_reducible exact insNil)
    | ((with_reducible refine insLt ?_); omega)
    | ((with_reducible refine insEq ?_); omega)
    | (with_reducible exact eAsT)
    | (with_reducible exact eAsL)
    | (with_reducible exact kII)
    | (with_reducible exact kIB)
    | (with_reducible exact jGxN)
    | (with_reducible exact jGxM)
    | (with_reducible apply jGx)
    | (with_reducible apply jGxC)
    | (with_reducible apply jGxK)
    | (with_reducible exact oListT)
    | (with_reducible apply jLenT)
    | (with_reducible apply jLenL)
    | (with_reducible apply jLenR)
    | ((with_reducible refine oGtT ?_); omega)
    | ((with_reducible refine oGtF ?_); omega)
    | (with_reducible exact tyT)
    | (with_reducible exact kTT)
    | (with_reducible exact jKret)
    | (with_reducible exact jZN)
    | (with_reducible exact jZN2)
    | (with_reducible apply jZp)
    | (with_reducible apply jZC)
    | (with_reducible exact ssetN)
    | (with_reducible apply jSS)
    | ((with_reducible refine oGeT ?_); omega)
    | ((with_reducible refine oGeF ?_); omega)
    | (with_reducible exact asQT)
    | (with_reducible exact asQL)
    | (with_reducible apply jSlT)
    | ((with_reducible refine oDiv ?_); omega)
    | (with_reducible exact jFret)
    | (with_reducible exact iN1)
    | (with_reducible exact iN2)
    | (with_reducible exact iN3)
    | (with_reducible exact oTupL)
    | (with_reducible exact oTupT)
    | (with_reducible exact tyN)
    | (with_reducible exact tyB)
    | (with_reducible exact kIT)
    | (with_reducible exact kIL)
    | ((with_reducible refine oMaxL ?_); omega)
    | ((with_reducible refine oMaxR ?_); omega)
    | (show Int.toNat _ = _; (try simp only [List.length_cons, List.length_nil, Nat.zero_add, Nat.reduceAdd, Int.cast_ofNat_Int, Int.reduceToNat, Int.reduceSub, Int.toNat_natCast]); (try rfl); done)
    | (show List.length _ = _; (try simp only [List.length_cons, List.length_nil, List.length_append, List.cons_append, List.nil_append, Nat.zero_add, Nat.reduceAdd]); (try rfl); done)
    | (show Nat.ble _ _ = true; rfl)
    | (show atI _ _ = _; rfl)
    | (show one dAll _ _ = _; rfl)
    | (with_reducible rfl)
    | omega
    | with_reducible assumption)) (by repeat' (first
    | (with_reducible exact jSet0)
    | (with_reducible apply jSetS)
    | ((with_reducible apply jVar); rfl)
    | (with_reducible apply jOp)
    | (with_reducible exact eC)
    | (with_reducible apply jCons)
    | (with_reducible exact jNil)
    | (with_reducible apply jSeq)
    | (with_reducible apply jKnx)
    | (with_reducible exact jSt0)
    | (with_reducible apply jStN)
    | (with_reducible apply jStC)
    | ((with_reducible refine jIteT ?hp ?_); case hp => rfl)
    | ((with_reducible refine jIteF ?hp ?_); case hp => exact Bool.false_ne_true)
    | ((with_reducible refine jIteF ?hp ?_); case hp => decide)
    | (with_reducible exact jApN)
    | (with_reducible apply jAppend)
    | (with_reducible apply jApC)
    | (with_reducible exact jGNl)
    | (with_reducible apply jGNm)
    | (with_reducible apply jIxT)
    | (with_reducible apply jIxL)
    | (with_reducible apply jIxR)
    | (with_reducible exact oAdd)
    | (with_reducible exact oTB)
    | (with_reducible apply jTst)
    | (with_reducible apply jIf)
    | (with_reducible apply jIfE)
    | (with_reducible apply jAnd)
    | (with_reducible apply jAndV)
    | (with_reducible apply jCall)
    | (with_reducible apply jSet)
    | (with_reducible exact cellEnd)
    | (with_reducible exact jForN)
    | (with_reducible apply jFor)
    | (with_reducible apply jForC)
    | (with_reducible apply jCB)
    | (with_reducible apply jFnx)
    | (with_reducible exact jSNil)
    | (with_reducible apply jGCs)
    | (with_reducible exact jRN)
    | (with_reducible apply jR1)
    | (with_reducible apply jR2)
    | (with_reducible apply jRS)
    | (with_reducible exact jRetKL)
    | (with_reducible apply jRet)
    | (with_reducible apply jRetF)
    | (with_reducible apply jRetKR)
    | (with_reducible exact oEqB)
    | ((with_reducible refine oEqT ?_); omega)
    | ((with_reducible refine oEqF ?_); omega)
    | (with_reducible exact jTruR0)
    | (with_reducible exact jTruR1)
    | (with_reducible apply jTru)
    | (with_reducible apply jLst)
    | (with_reducible apply jLstM)
    | (with_reducible apply jPar)
    | (with_reducible apply jPar3)
    | (with_reducible apply jPart)
    | (with_reducible apply jIsi)
    | ((with_reducible show atI _ _ = _); rfl)
    | ((with_reducible show Nat.ble _ _ = true); rfl)
    | ((with_reducible refine oMod ?_); omega)
    | (with_reducible apply jAddR)
    | (with_reducible apply jAddL)
    | (with_reducible apply jAddT)
    | ((with_reducible refine oLeT ?_); omega)
    | ((with_reducible refine oLeF ?_); omega)
    | (with_reducible exact jYes)
    | (with_reducible exact jAsN)
    | (with_reducible apply jAsg)
    | (with_reducible apply jAsC)
    | (with_reducible apply jSetLast)
    | (with_reducible apply jSetC)
    | (with_reducible exact jWN)
    | (with_reducible apply jWC)
    | (with_reducible exact jNo)
    | (with_reducible apply jNot)
    | (with_reducible apply jNotV)
    | (with_reducible exact setEnd)
    | (with_reducible exact tyI)
    | (with_reducible exact oIsN)
    | (with_reducible exact oIsNotN)
    | (with_reducible exact oIsNotTT)
    | ((with_reducible refine oMul ?_); omega)
    | ((with_reducible apply jInsGt); omega)
    | (with_reducible exact neT2)
    | (with_reducible exact oNeg)
    | (with_reducible exact oNeB)
    | (with_reducible exact oNeL0)
    | (with_reducible exact oNeL1)
    | (with_reducible exact oNeL2)
    | (with_reducible exact oNeR0)
    | ((with_reducible refine oNeT ?_); omega)
    | ((with_reducible refine oNeF ?_); omega)
    | ((with_reducible refine jNeRT ?_); rfl)
    | (with_reducible apply jSq)
    | (with_reducible apply jSqF)
    | (with_reducible apply jUn)
    | (with_reducible exact jMpN)
    | (with_reducible apply jMpC)
    | (with_reducible apply jGTp)
    | ((with_reducible refine oLtT ?_); omega)
    | ((with_reducible refine oLtF ?_); omega)
    | (with_reducible apply jTup)
    | (with_reducible exact oIntI)
    | (with_reducible apply jOr)
    | (with_reducible apply jOrV)
    | (with_reducible exact jLcN)
    | (with_reducible exact jLc2N)
    | (with_reducible apply jLc)
    | (with_reducible apply jLcC)
    | (with_reducible apply jLcK)
    | (with_reducible apply jLc2)
    | (with_reducible apply jLc2C)
    | (with_reducible exact atLast)
    | (with_reducible apply jCh)
    | (with_reducible apply jChK)
    | (with_reducible apply jExpr)
    | (with_reducible exact oSub)
    | (with_reducible exact insNil)
    | ((with_reducible refine insLt ?_); omega)
    | ((with_reducible refine insEq ?_); omega)
    | (with_reducible exact eAsT)
    | (with_reducible exact eAsL)
    | (with_reducible exact kII)
    | (with_reducible exact kIB)
    | (with_reducible exact jGxN)
    | (with_reducible exact jGxM)
    | (with_reducible apply jGx)
    | (with_reducible apply jGxC)
    | (with_reducible apply jGxK)
    | (with_reducible exact oListT)
    | (with_reducible apply jLenT)
    | (with_reducible apply jLenL)
    | (with_reducible apply jLenR)
    | ((with_reducible refine oGtT ?_); omega)
    | ((with_reducible refine oGtF ?_); omega)
    | (with_reducible exact tyT)
    | (with_reducible exact kTT)
    | (with_reducible exact jKret)
    | (with_reducible exact jZN)
    | (with_reducible exact jZN2)
    | (with_reducible apply jZp)
    | (with_reducible apply jZC)
    | (with_reducible exact ssetN)
    | (with_reducible apply jSS)
    | ((with_reducible refine oGeT ?_); omega)
    | ((with_reducible refine oGeF ?_); omega)
    | (with_reducible exact asQT)
    | (with_reducible exact asQL)
    | (with_reducible apply jSlT)
    | ((with_reducible refine oDiv ?_); omega)
    | (with_reducible exact jFret)
    | (with_reducible exact iN1)
    | (with_reducible exact iN2)
    | (with_reducible exact iN3)
    | (with_reducible exact oTupL)
    | (with_reducible exact oTupT)
    | (with_reducible exact tyN)
    | (with_reducible exact tyB)
    | (with_reducible exact kIT)
    | (with_reducible exact kIL)
    | ((with_reducible refine oMaxL ?_); omega)
    | ((with_reducible refine oMaxR ?_); omega)
    | (show Int.toNat _ = _; (try simp only [List.length_cons, List.length_nil, Nat.zero_add, Nat.reduceAdd, Int.cast_ofNat_Int, Int.reduceToNat, Int.reduceSub, Int.toNat_natCast]); (try rfl); done)
    | (show List.length _ = _; (try simp only [List.length_cons, List.length_nil, List.length_append, List.cons_append, List.nil_append, Nat.zero_add, Nat.reduceAdd]); (try rfl); done)
    | (show Nat.ble _ _ = true; rfl)
    | (show atI _ _ = _; rfl)
    | (show one dAll _ _ = _; rfl)
    | (with_reducible rfl)
    | omega
    | with_reducible assumption))) hS ?_, ?_⟩
    · rfl
    · rfl
  obtain ⟨r, e4, rfl⟩ : ∃ r, F_without_span [.tup [.int h, .int i], .tup [.int f, .int (f + b)]] S = some (.lst r, S) ∧ r = [] := by
    refine ⟨_, gc_eq (R := [.dead]) (run_without_span rfl (by repeat' (first
    | (with_reducible exact jSet0)
    | (with_reducible apply jSetS)
    | ((with_reducible apply jVar); rfl)
    | (with_reducible apply jOp)
    | (with_reducible exact eC)
    | (with_reducible apply jCons)
    | (with_reducible exact jNil)
    | (with_reducible apply jSeq)
    | (with_reducible apply jKnx)
    | (with_reducible exact jSt0)
    | (with_reducible apply jStN)
    | (with_reducible apply jStC)
    | ((with_reducible refine jIteT ?hp ?_); case hp => rfl)
    | ((with_reducible refine jIteF ?hp ?_); case hp => exact Bool.false_ne_true)
    | ((with_reducible refine jIteF ?hp ?_); case hp => decide)
    | (with_reducible exact jApN)
    | (with_reducible apply jAppend)
    | (with_reducible apply jApC)
    | (with_reducible exact jGNl)
    | (with_reducible apply jGNm)
    | (with_reducible apply jIxT)
    | (with_reducible apply jIxL)
    | (with_reducible apply jIxR)
    | (with_reducible exact oAdd)
    | (with_reducible exact oTB)
    | (with_reducible apply jTst)
    | (with_reducible apply jIf)
    | (with_reducible apply jIfE)
    | (with_reducible apply jAnd)
    | (with_reducible apply jAndV)
    | (with_reducible apply jCall)
    | (with_reducible apply jSet)
    | (with_reducible exact cellEnd)
    | (with_reducible exact jForN)
    | (with_reducible apply jFor)
    | (with_reducible apply jForC)
    | (with_reducible apply jCB)
    | (with_reducible apply jFnx)
    | (with_reducible exact jSNil)
    | (with_reducible apply jGCs)
    | (with_reducible exact jRN)
    | (with_reducible apply jR1)
    | (with_reducible apply jR2)
    | (with_reducible apply jRS)
    | (with_reducible exact jRetKL)
    | (with_reducible apply jRet)
    | (with_reducible apply jRetF)
    | (with_reducible apply jRetKR)
    | (with_reducible exact oEqB)
    | ((with_reducible refine oEqT ?_); omega)
    | ((with_reducible refine oEqF ?_); omega)
    | (with_reducible exact jTruR0)
    | (with_reducible exact jTruR1)
    | (with_reducible apply jTru)
    | (with_reducible apply jLst)
    | (with_reducible apply jLstM)
    | (with_reducible apply jPar)
    | (with_reducible apply jPar3)
    | (with_reducible apply jPart)
    | (with_reducible apply jIsi)
    | ((with_reducible show atI _ _ = _); rfl)
    | ((with_reducible show Nat.ble _ _ = true); rfl)
    | ((with_reducible refine oMod ?_); omega)
    | (with_reducible apply jAddR)
    | (with_reducible apply jAddL)
    | (with_reducible apply jAddT)
    | ((with_reducible refine oLeT ?_); omega)
    | ((with_reducible refine oLeF ?_); omega)
    | (with_reducible exact jYes)
    | (with_reducible exact jAsN)
    | (with_reducible apply jAsg)
    | (with_reducible apply jAsC)
    | (with_reducible apply jSetLast)
    | (with_reducible apply jSetC)
    | (with_reducible exact jWN)
    | (with_reducible apply jWC)
    | (with_reducible exact jNo)
    | (with_reducible apply jNot)
    | (with_reducible apply jNotV)
    | (with_reducible exact setEnd)
    | (with_reducible exact tyI)
    | (with_reducible exact oIsN)
    | (with_reducible exact oIsNotN)
    | (with_reducible exact oIsNotTT)
    | ((with_reducible refine oMul ?_); omega)
    | ((with_reducible apply jInsGt); omega)
    | (with_reducible exact neT2)
    | (with_reducible exact oNeg)
    | (with_reducible exact oNeB)
    | (with_reducible exact oNeL0)
    | (with_reducible exact oNeL1)
    | (with_reducible exact oNeL2)
    | (with_reducible exact oNeR0)
    | ((with_reducible refine oNeT ?_); omega)
    | ((with_reducible refine oNeF ?_); omega)
    | ((with_reducible refine jNeRT ?_); rfl)
    | (with_reducible apply jSq)
    | (with_reducible apply jSqF)
    | (with_reducible apply jUn)
    | (with_reducible exact jMpN)
    | (with_reducible apply jMpC)
    | (with_reducible apply jGTp)
    | ((with_reducible refine oLtT ?_); omega)
    | ((with_reducible refine oLtF ?_); omega)
    | (with_reducible apply jTup)
    | (with_reducible exact oIntI)
    | (with_reducible apply jOr)
    | (with_reducible apply jOrV)
    | (with_reducible exact jLcN)
    | (with_reducible exact jLc2N)
    | (with_reducible apply jLc)
    | (with_reducible apply jLcC)
    | (with_reducible apply jLcK)
    | (with_reducible apply jLc2)
    | (with_reducible apply jLc2C)
    | (with_reducible exact atLast)
    | (with_reducible apply jCh)
    | (with_reducible apply jChK)
    | (with_reducible apply jExpr)
    | (with_reducible exact oSub)
    | (with_reducible exact insNil)
    | ((with_reducible refine insLt ?_); omega)
    | ((with_reducible refine insEq ?_); omega)
    | (with_reducible exact eAsT)
    | (with_reducible exact eAsL)
    | (with_reducible exact kII)
    | (with_reducible exact kIB)
    | (with_reducible exact jGxN)
    | (with_reducible exact jGxM)
    | (with_reducible apply jGx)
    | (with_reducible apply jGxC)
    | (with_reducible apply jGxK)
    | (with_reducible exact oListT)
    | (with_reducible apply jLenT)
    | (with_reducible apply jLenL)
    | (with_reducible apply jLenR)
    | ((with_reducible refine oGtT ?_); omega)
    | ((with_reducible refine oGtF ?_); omega)
    | (with_reducible exact tyT)
    | (with_reducible exact kTT)
    | (with_reducible exact jKret)
    | (with_reducible exact jZN)
    | (with_reducible exact jZN2)
    | (with_reducible apply jZp)
    | (with_reducible apply jZC)
    | (with_reducible exact ssetN)
    | (with_reducible apply jSS)
    | ((with_reducible refine oGeT ?_); omega)
    | ((with_reducible refine oGeF ?_); omega)
    | (with_reducible exact asQT)
    | (with_reducible exact asQL)
    | (with_reducible apply jSlT)
    | ((with_reducible refine oDiv ?_); omega)
    | (with_reducible exact jFret)
    | (with_reducible exact iN1)
    | (with_reducible exact iN2)
    | (with_reducible exact iN3)
    | (with_reducible exact oTupL)
    | (with_reducible exact oTupT)
    | (with_reducible exact tyN)
    | (with_reducible exact tyB)
    | (with_reducible exact kIT)
    | (with_reducible exact kIL)
    | ((with_reducible refine oMaxL ?_); omega)
    | ((with_reducible refine oMaxR ?_); omega)
    | (show Int.toNat _ = _; (try simp only [List.length_cons, List.length_nil, Nat.zero_add, Nat.reduceAdd, Int.cast_ofNat_Int, Int.reduceToNat, Int.reduceSub, Int.toNat_natCast]); (try rfl); done)
    | (show List.length _ = _; (try simp only [List.length_cons, List.length_nil, List.length_append, List.cons_append, List.nil_append, Nat.zero_add, Nat.reduceAdd]); (try rfl); done)
    | (show Nat.ble _ _ = true; rfl)
    | (show atI _ _ = _; rfl)
    | (show one dAll _ _ = _; rfl)
    | (with_reducible rfl)
    | omega
    | with_reducible assumption)) (by repeat' (first
    | (with_reducible exact jSet0)
    | (with_reducible apply jSetS)
    | ((with_reducible apply jVar); rfl)
    | (with_reducible apply jOp)
    | (with_reducible exact eC)
    | (with_reducible apply jCons)
    | (with_reducible exact jNil)
    | (with_reducible apply jSeq)
    | (with_reducible apply jKnx)
    | (with_reducible exact jSt0)
    | (with_reducible apply jStN)
    | (with_reducible apply jStC)
    | ((with_reducible refine jIteT ?hp ?_); case hp => rfl)
    | ((with_reducible refine jIteF ?hp ?_); case hp => exact Bool.false_ne_true)
    | ((with_reducible refine jIteF ?hp ?_); case hp => decide)
    | (with_reducible exact jApN)
    | (with_reducible apply jAppend)
    | (with_reducible apply jApC)
    | (with_reducible exact jGNl)
    | (with_reducible apply jGNm)
    | (with_reducible apply jIxT)
    | (with_reducible apply jIxL)
    | (with_reducible apply jIxR)
    | (with_reducible exact oAdd)
    | (with_reducible exact oTB)
    | (with_reducible apply jTst)
    | (with_reducible apply jIf)
    | (with_reducible apply jIfE)
    | (with_reducible apply jAnd)
    | (with_reducible apply jAndV)
    | (with_reducible apply jCall)
    | (with_reducible apply jSet)
    | (with_reducible exact cellEnd)
    | (with_reducible exact jForN)
    | (with_reducible apply jFor)
    | (with_reducible apply jForC)
    | (with_reducible apply jCB)
    | (with_reducible apply jFnx)
    | (with_reducible exact jSNil)
    | (with_reducible apply jGCs)
    | (with_reducible exact jRN)
    | (with_reducible apply jR1)
    | (with_reducible apply jR2)
    | (with_reducible apply jRS)
    | (with_reducible exact jRetKL)
    | (with_reducible apply jRet)
    | (with_reducible apply jRetF)
    | (with_reducible apply jRetKR)
    | (with_reducible exact oEqB)
    | ((with_reducible refine oEqT ?_); omega)
    | ((with_reducible refine oEqF ?_); omega)
    | (with_reducible exact jTruR0)
    | (with_reducible exact jTruR1)
    | (with_reducible apply jTru)
    | (with_reducible apply jLst)
    | (with_reducible apply jLstM)
    | (with_reducible apply jPar)
    | (with_reducible apply jPar3)
    | (with_reducible apply jPart)
    | (with_reducible apply jIsi)
    | ((with_reducible show atI _ _ = _); rfl)
    | ((with_reducible show Nat.ble _ _ = true); rfl)
    | ((with_reducible refine oMod ?_); omega)
    | (with_reducible apply jAddR)
    | (with_reducible apply jAddL)
    | (with_reducible apply jAddT)
    | ((with_reducible refine oLeT ?_); omega)
    | ((with_reducible refine oLeF ?_); omega)
    | (with_reducible exact jYes)
    | (with_reducible exact jAsN)
    | (with_reducible apply jAsg)
    | (with_reducible apply jAsC)
    | (with_reducible apply jSetLast)
    | (with_reducible apply jSetC)
    | (with_reducible exact jWN)
    | (with_reducible apply jWC)
    | (with_reducible exact jNo)
    | (with_reducible apply jNot)
    | (with_reducible apply jNotV)
    | (with_reducible exact setEnd)
    | (with_reducible exact tyI)
    | (with_reducible exact oIsN)
    | (with_reducible exact oIsNotN)
    | (with_reducible exact oIsNotTT)
    | ((with_reducible refine oMul ?_); omega)
    | ((with_reducible apply jInsGt); omega)
    | (with_reducible exact neT2)
    | (with_reducible exact oNeg)
    | (with_reducible exact oNeB)
    | (with_reducible exact oNeL0)
    | (with_reducible exact oNeL1)
    | (with_reducible exact oNeL2)
    | (with_reducible exact oNeR0)
    | ((with_reducible refine oNeT ?_); omega)
    | ((with_reducible refine oNeF ?_); omega)
    | ((with_reducible refine jNeRT ?_); rfl)
    | (with_reducible apply jSq)
    | (with_reducible apply jSqF)
    | (with_reducible apply jUn)
    | (with_reducible exact jMpN)
    | (with_reducible apply jMpC)
    | (with_reducible apply jGTp)
    | ((with_reducible refine oLtT ?_); omega)
    | ((with_reducible refine oLtF ?_); omega)
    | (with_reducible apply jTup)
    | (with_reducible exact oIntI)
    | (with_reducible apply jOr)
    | (with_reducible apply jOrV)
    | (with_reducible exact jLcN)
    | (with_reducible exact jLc2N)
    | (with_reducible apply jLc)
    | (with_reducible apply jLcC)
    | (with_reducible apply jLcK)
    | (with_reducible apply jLc2)
    | (with_reducible apply jLc2C)
    | (with_reducible exact atLast)
    | (with_reducible apply jCh)
    | (with_reducible apply jChK)
    | (with_reducible apply jExpr)
    | (with_reducible exact oSub)
    | (with_reducible exact insNil)
    | ((with_reducible refine insLt ?_); omega)
    | ((with_reducible refine insEq ?_); omega)
    | (with_reducible exact eAsT)
    | (with_reducible exact eAsL)
    | (with_reducible exact kII)
    | (with_reducible exact kIB)
    | (with_reducible exact jGxN)
    | (with_reducible exact jGxM)
    | (with_reducible apply jGx)
    | (with_reducible apply jGxC)
    | (with_reducible apply jGxK)
    | (with_reducible exact oListT)
    | (with_reducible apply jLenT)
    | (with_reducible apply jLenL)
    | (with_reducible apply jLenR)
    | ((with_reducible refine oGtT ?_); omega)
    | ((with_reducible refine oGtF ?_); omega)
    | (with_reducible exact tyT)
    | (with_reducible exact kTT)
    | (with_reducible exact jKret)
    | (with_reducible exact jZN)
    | (with_reducible exact jZN2)
    | (with_reducible apply jZp)
    | (with_reducible apply jZC)
    | (with_reducible exact ssetN)
    | (with_reducible apply jSS)
    | ((with_reducible refine oGeT ?_); omega)
    | ((with_reducible refine oGeF ?_); omega)
    | (with_reducible exact asQT)
    | (with_reducible exact asQL)
    | (with_reducible apply jSlT)
    | ((with_reducible refine oDiv ?_); omega)
    | (with_reducible exact jFret)
    | (with_reducible exact iN1)
    | (with_reducible exact iN2)
    | (with_reducible exact iN3)
    | (with_reducible exact oTupL)
    | (with_reducible exact oTupT)
    | (with_reducible exact tyN)
    | (with_reducible exact tyB)
    | (with_reducible exact kIT)
    | (with_reducible exact kIL)
    | ((with_reducible refine oMaxL ?_); omega)
    | ((with_reducible refine oMaxR ?_); omega)
    | (show Int.toNat _ = _; (try simp only [List.length_cons, List.length_nil, Nat.zero_add, Nat.reduceAdd, Int.cast_ofNat_Int, Int.reduceToNat, Int.reduceSub, Int.toNat_natCast]); (try rfl); done)
    | (show List.length _ = _; (try simp only [List.length_cons, List.length_nil, List.length_append, List.cons_append, List.nil_append, Nat.zero_add, Nat.reduceAdd]); (try rfl); done)
    | (show Nat.ble _ _ = true; rfl)
    | (show atI _ _ = _; rfl)
    | (show one dAll _ _ = _; rfl)
    | (with_reducible rfl)
    | omega
    | with_reducible assumption))) hS ?_, ?_⟩
    · rfl
    · rfl
  have e3 : F_bursts_of [.tup [.int f, .int g], .tup [.int f, .int h, .int i, .int g], .int b] S = some (.lst [], S) := by
    repeat' (first
    | (with_reducible exact e1)
    | (with_reducible exact e2)
    | (with_reducible exact e4)
    | (with_reducible apply run_bursts_of)
    | (with_reducible exact jSet0)
    | (with_reducible apply jSetS)
    | ((with_reducible apply jVar); rfl)
    | (with_reducible apply jOp)
    | (with_reducible exact eC)
    | (with_reducible apply jCons)
    | (with_reducible exact jNil)
    | (with_reducible apply jSeq)
    | (with_reducible apply jKnx)
    | (with_reducible exact jSt0)
    | (with_reducible apply jStN)
    | (with_reducible apply jStC)
    | ((with_reducible refine jIteT ?hp ?_); case hp => rfl)
    | ((with_reducible refine jIteF ?hp ?_); case hp => exact Bool.false_ne_true)
    | ((with_reducible refine jIteF ?hp ?_); case hp => decide)
    | (with_reducible exact jApN)
    | (with_reducible apply jAppend)
    | (with_reducible apply jApC)
    | (with_reducible exact jGNl)
    | (with_reducible apply jGNm)
    | (with_reducible apply jIxT)
    | (with_reducible apply jIxL)
    | (with_reducible apply jIxR)
    | (with_reducible exact oAdd)
    | (with_reducible exact oTB)
    | (with_reducible apply jTst)
    | (with_reducible apply jIf)
    | (with_reducible apply jIfE)
    | (with_reducible apply jAnd)
    | (with_reducible apply jAndV)
    | (with_reducible apply jCall)
    | (with_reducible apply jSet)
    | (with_reducible exact cellEnd)
    | (with_reducible exact jForN)
    | (with_reducible apply jFor)
    | (with_reducible apply jForC)
    | (with_reducible apply jCB)
    | (with_reducible apply jFnx)
    | (with_reducible exact jSNil)
    | (with_reducible apply jGCs)
    | (with_reducible exact jRN)
    | (with_reducible apply jR1)
    | (with_reducible apply jR2)
    | (with_reducible apply jRS)
    | (with_reducible exact jRetKL)
    | (with_reducible apply jRet)
    | (with_reducible apply jRetF)
    | (with_reducible apply jRetKR)
    | (with_reducible exact oEqB)
    | ((with_reducible refine oEqT ?_); omega)
    | ((with_reducible refine oEqF ?_); omega)
    | (with_reducible exact jTruR0)
    | (with_reducible exact jTruR1)
    | (with_reducible apply jTru)
    | (with_reducible apply jLst)
    | (with_reducible apply jLstM)
    | (with_reducible apply jPar)
    | (with_reducible apply jPar3)
    | (with_reducible apply jPart)
    | (with_reducible apply jIsi)
    | ((with_reducible show atI _ _ = _); rfl)
    | ((with_reducible show Nat.ble _ _ = true); rfl)
    | ((with_reducible refine oMod ?_); omega)
    | (with_reducible apply jAddR)
    | (with_reducible apply jAddL)
    | (with_reducible apply jAddT)
    | ((with_reducible refine oLeT ?_); omega)
    | ((with_reducible refine oLeF ?_); omega)
    | (with_reducible exact jYes)
    | (with_reducible exact jAsN)
    | (with_reducible apply jAsg)
    | (with_reducible apply jAsC)
    | (with_reducible apply jSetLast)
    | (with_reducible apply jSetC)
    | (with_reducible exact jWN)
    | (with_reducible apply jWC)
    | (with_reducible exact jNo)
    | (with_reducible apply jNot)
    | (with_reducible apply jNotV)
    | (with_reducible exact setEnd)
    | (with_reducible exact tyI)
    | (with_reducible exact oIsN)
    | (with_reducible exact oIsNotN)
    | (with_reducible exact oIsNotTT)
    | ((with_reducible refine oMul ?_); omega)
    | ((with_reducible apply jInsGt); omega)
    | (with_reducible exact neT2)
    | (with_reducible exact oNeg)
    | (with_reducible exact oNeB)
    | (with_reducible exact oNeL0)
    | (with_reducible exact oNeL1)
    | (with_reducible exact oNeL2)
    | (with_reducible exact oNeR0)
    | ((with_reducible refine oNeT ?_); omega)
    | ((with_reducible refine oNeF ?_); omega)
    | ((with_reducible refine jNeRT ?_); rfl)
    | (with_reducible apply jSq)
    | (with_reducible apply jSqF)
    | (with_reducible apply jUn)
    | (with_reducible exact jMpN)
    | (with_reducible apply jMpC)
    | (with_reducible apply jGTp)
    | ((with_reducible refine oLtT ?_); omega)
    | ((with_reducible refine oLtF ?_); omega)
    | (with_reducible apply jTup)
    | (with_reducible exact oIntI)
    | (with_reducible apply jOr)
    | (with_reducible apply jOrV)
    | (with_reducible exact jLcN)
    | (with_reducible exact jLc2N)
    | (with_reducible apply jLc)
    | (with_reducible apply jLcC)
    | (with_reducible apply jLcK)
    | (with_reducible apply jLc2)
    | (with_reducible apply jLc2C)
    | (with_reducible exact atLast)
    | (with_reducible apply jCh)
    | (with_reducible apply jChK)
    | (with_reducible apply jExpr)
    | (with_reducible exact oSub)
    | (with_reducible exact insNil)
    | ((with_reducible refine insLt ?_); omega)
    | ((with_reducible refine insEq ?_); omega)
    | (with_reducible exact eAsT)
    | (with_reducible exact eAsL)
    | (with_reducible exact kII)
    | (with_reducible exact kIB)
    | (with_reducible exact jGxN)
    | (with_reducible exact jGxM)
    | (with_reducible apply jGx)
    | (with_reducible apply jGxC)
    | (with_reducible apply jGxK)
    | (with_reducible exact oListT)
    | (with_reducible apply jLenT)
    | (with_reducible apply jLenL)
    | (with_reducible apply jLenR)
    | ((with_reducible refine oGtT ?_); omega)
    | ((with_reducible refine oGtF ?_); omega)
    | (with_reducible exact tyT)
    | (with_reducible exact kTT)
    | (with_reducible exact jKret)
    | (with_reducible exact jZN)
    | (with_reducible exact jZN2)
    | (with_reducible apply jZp)
    | (with_reducible apply jZC)
    | (with_reducible exact ssetN)
    | (with_reducible apply jSS)
    | ((with_reducible refine oGeT ?_); omega)
    | ((with_reducible refine oGeF ?_); omega)
    | (with_reducible exact asQT)
    | (with_reducible exact asQL)
    | (with_reducible apply jSlT)
    | ((with_reducible refine oDiv ?_); omega)
    | (with_reducible exact jFret)
    | (with_reducible exact iN1)
    | (with_reducible exact iN2)
    | (with_reducible exact iN3)
    | (with_reducible exact oTupL)
    | (with_reducible exact oTupT)
    | (with_reducible exact tyN)
    | (with_reducible exact tyB)
    | (with_reducible exact kIT)
    | (with_reducible exact kIL)
    | ((with_reducible refine oMaxL ?_); omega)
    | ((with_reducible refine oMaxR ?_); omega)
    | (show Int.toNat _ = _; (try simp only [List.length_cons, List.length_nil, Nat.zero_add, Nat.reduceAdd, Int.cast_ofNat_Int, Int.reduceToNat, Int.reduceSub, Int.toNat_natCast]); (try rfl); done)
    | (show List.length _ = _; (try simp only [List.length_cons, List.length_nil, List.length_append, List.cons_append, List.nil_append, Nat.zero_add, Nat.reduceAdd]); (try rfl); done)
    | (show Nat.ble _ _ = true; rfl)
    | (show atI _ _ = _; rfl)
    | (show one dAll _ _ = _; rfl)
    | (with_reducible rfl)
    | omega
    | with_reducible assumption)
  repeat' (first
    | (with_reducible exact e3)
    | (with_reducible exact e2)
    | (with_reducible apply run_fits_signal)
    | (with_reducible apply run_is_quiet_about)
    | (with_reducible exact jSet0)
    | (with_reducible apply jSetS)
    | ((with_reducible apply jVar); rfl)
    | (with_reducible apply jOp)
    | (with_reducible exact eC)
    | (with_reducible apply jCons)
    | (with_reducible exact jNil)
    | (with_reducible apply jSeq)
    | (with_reducible apply jKnx)
    | (with_reducible exact jSt0)
    | (with_reducible apply jStN)
    | (with_reducible apply jStC)
    | ((with_reducible refine jIteT ?hp ?_); case hp => rfl)
    | ((with_reducible refine jIteF ?hp ?_); case hp => exact Bool.false_ne_true)
    | ((with_reducible refine jIteF ?hp ?_); case hp => decide)
    | (with_reducible exact jApN)
    | (with_reducible apply jAppend)
    | (with_reducible apply jApC)
    | (with_reducible exact jGNl)
    | (with_reducible apply jGNm)
    | (with_reducible apply jIxT)
    | (with_reducible apply jIxL)
    | (with_reducible apply jIxR)
    | (with_reducible exact oAdd)
    | (with_reducible exact oTB)
    | (with_reducible apply jTst)
    | (with_reducible apply jIf)
    | (with_reducible apply jIfE)
    | (with_reducible apply jAnd)
    | (with_reducible apply jAndV)
    | (with_reducible apply jCall)
    | (with_reducible apply jSet)
    | (with_reducible exact cellEnd)
    | (with_reducible exact jForN)
    | (with_reducible apply jFor)
    | (with_reducible apply jForC)
    | (with_reducible apply jCB)
    | (with_reducible apply jFnx)
    | (with_reducible exact jSNil)
    | (with_reducible apply jGCs)
    | (with_reducible exact jRN)
    | (with_reducible apply jR1)
    | (with_reducible apply jR2)
    | (with_reducible apply jRS)
    | (with_reducible exact jRetKL)
    | (with_reducible apply jRet)
    | (with_reducible apply jRetF)
    | (with_reducible apply jRetKR)
    | (with_reducible exact oEqB)
    | ((with_reducible refine oEqT ?_); omega)
    | ((with_reducible refine oEqF ?_); omega)
    | (with_reducible exact jTruR0)
    | (with_reducible exact jTruR1)
    | (with_reducible apply jTru)
    | (with_reducible apply jLst)
    | (with_reducible apply jLstM)
    | (with_reducible apply jPar)
    | (with_reducible apply jPar3)
    | (with_reducible apply jPart)
    | (with_reducible apply jIsi)
    | ((with_reducible show atI _ _ = _); rfl)
    | ((with_reducible show Nat.ble _ _ = true); rfl)
    | ((with_reducible refine oMod ?_); omega)
    | (with_reducible apply jAddR)
    | (with_reducible apply jAddL)
    | (with_reducible apply jAddT)
    | ((with_reducible refine oLeT ?_); omega)
    | ((with_reducible refine oLeF ?_); omega)
    | (with_reducible exact jYes)
    | (with_reducible exact jAsN)
    | (with_reducible apply jAsg)
    | (with_reducible apply jAsC)
    | (with_reducible apply jSetLast)
    | (with_reducible apply jSetC)
    | (with_reducible exact jWN)
    | (with_reducible apply jWC)
    | (with_reducible exact jNo)
    | (with_reducible apply jNot)
    | (with_reducible apply jNotV)
    | (with_reducible exact setEnd)
    | (with_reducible exact tyI)
    | (with_reducible exact oIsN)
    | (with_reducible exact oIsNotN)
    | (with_reducible exact oIsNotTT)
    | ((with_reducible refine oMul ?_); omega)
    | ((with_reducible apply jInsGt); omega)
    | (with_reducible exact neT2)
    | (with_reducible exact oNeg)
    | (with_reducible exact oNeB)
    | (with_reducible exact oNeL0)
    | (with_reducible exact oNeL1)
    | (with_reducible exact oNeL2)
    | (with_reducible exact oNeR0)
    | ((with_reducible refine oNeT ?_); omega)
    | ((with_reducible refine oNeF ?_); omega)
    | ((with_reducible refine jNeRT ?_); rfl)
    | (with_reducible apply jSq)
    | (with_reducible apply jSqF)
    | (with_reducible apply jUn)
    | (with_reducible exact jMpN)
    | (with_reducible apply jMpC)
    | (with_reducible apply jGTp)
    | ((with_reducible refine oLtT ?_); omega)
    | ((with_reducible refine oLtF ?_); omega)
    | (with_reducible apply jTup)
    | (with_reducible exact oIntI)
    | (with_reducible apply jOr)
    | (with_reducible apply jOrV)
    | (with_reducible exact jLcN)
    | (with_reducible exact jLc2N)
    | (with_reducible apply jLc)
    | (with_reducible apply jLcC)
    | (with_reducible apply jLcK)
    | (with_reducible apply jLc2)
    | (with_reducible apply jLc2C)
    | (with_reducible exact atLast)
    | (with_reducible apply jCh)
    | (with_reducible apply jChK)
    | (with_reducible apply jExpr)
    | (with_reducible exact oSub)
    | (with_reducible exact insNil)
    | ((with_reducible refine insLt ?_); omega)
    | ((with_reducible refine insEq ?_); omega)
    | (with_reducible exact eAsT)
    | (with_reducible exact eAsL)
    | (with_reducible exact kII)
    | (with_reducible exact kIB)
    | (with_reducible exact jGxN)
    | (with_reducible exact jGxM)
    | (with_reducible apply jGx)
    | (with_reducible apply jGxC)
    | (with_reducible apply jGxK)
    | (with_reducible exact oListT)
    | (with_reducible apply jLenT)
    | (with_reducible apply jLenL)
    | (with_reducible apply jLenR)
    | ((with_reducible refine oGtT ?_); omega)
    | ((with_reducible refine oGtF ?_); omega)
    | (with_reducible exact tyT)
    | (with_reducible exact kTT)
    | (with_reducible exact jKret)
    | (with_reducible exact jZN)
    | (with_reducible exact jZN2)
    | (with_reducible apply jZp)
    | (with_reducible apply jZC)
    | (with_reducible exact ssetN)
    | (with_reducible apply jSS)
    | ((with_reducible refine oGeT ?_); omega)
    | ((with_reducible refine oGeF ?_); omega)
    | (with_reducible exact asQT)
    | (with_reducible exact asQL)
    | (with_reducible apply jSlT)
    | ((with_reducible refine oDiv ?_); omega)
    | (with_reducible exact jFret)
    | (with_reducible exact iN1)
    | (with_reducible exact iN2)
    | (with_reducible exact iN3)
    | (with_reducible exact oTupL)
    | (with_reducible exact oTupT)
    | (with_reducible exact tyN)
    | (with_reducible exact tyB)
    | (with_reducible exact kIT)
    | (with_reducible exact kIL)
    | ((with_reducible refine oMaxL ?_); omega)
    | ((with_reducible refine oMaxR ?_); omega)
    | (show Int.toNat _ = _; (try simp only [List.length_cons, List.length_nil, Nat.zero_add, Nat.reduceAdd, Int.cast_ofNat_Int, Int.reduceToNat, Int.reduceSub, Int.toNat_natCast]); (try rfl); done)
    | (show List.length _ = _; (try simp only [List.length_cons, List.length_nil, List.length_append, List.cons_append, List.nil_append, Nat.zero_add, Nat.reduceAdd]); (try rfl); done)
    | (show Nat.ble _ _ = true; rfl)
    | (show atI _ _ = _; rfl)
    | (show one dAll _ _ = _; rfl)
    | (with_reducible rfl)
    | omega
    | with_reducible assumption)
end K51

namespace K51
open PySem PySem.Spec PyProof.Rows L2 DL
theorem ev_turnA (f g s : Int) (S : Store) (h : 0 < s ∧ 0 < f ∧ f < 100000 ∧ g = f + s + 1) : F__law_turnings [.tup [.int f, .int g], .int s] S = some (.int (0 + 1 + 1), S) := by
  by_cases hsf : s < f
  · repeat' (first
    | (with_reducible apply run__law_turnings)
    | (with_reducible exact jSet0)
    | (with_reducible apply jSetS)
    | ((with_reducible apply jVar); rfl)
    | (with_reducible apply jOp)
    | (with_reducible exact eC)
    | (with_reducible apply jCons)
    | (with_reducible exact jNil)
    | (with_reducible apply jSeq)
    | (with_reducible apply jKnx)
    | (with_reducible exact jSt0)
    | (with_reducible apply jStN)
    | (with_reducible apply jStC)
    | ((with_reducible refine jIteT ?hp ?_); case hp => rfl)
    | ((with_reducible refine jIteF ?hp ?_); case hp => exact Bool.false_ne_true)
    | ((with_reducible refine jIteF ?hp ?_); case hp => decide)
    | (with_reducible exact jApN)
    | (with_reducible apply jAppend)
    | (with_reducible apply jApC)
    | (with_reducible exact jGNl)
    | (with_reducible apply jGNm)
    | (with_reducible apply jIxT)
    | (with_reducible apply jIxL)
    | (with_reducible apply jIxR)
    | (with_reducible exact oAdd)
    | (with_reducible exact oTB)
    | (with_reducible apply jTst)
    | (with_reducible apply jIf)
    | (with_reducible apply jIfE)
    | (with_reducible apply jAnd)
    | (with_reducible apply jAndV)
    | (with_reducible apply jCall)
    | (with_reducible apply jSet)
    | (with_reducible exact cellEnd)
    | (with_reducible exact jForN)
    | (with_reducible apply jFor)
    | (with_reducible apply jForC)
    | (with_reducible apply jCB)
    | (with_reducible apply jFnx)
    | (with_reducible exact jSNil)
    | (with_reducible apply jGCs)
    | (with_reducible exact jRN)
    | (with_reducible apply jR1)
    | (with_reducible apply jR2)
    | (with_reducible apply jRS)
    | (with_reducible exact jRetKL)
    | (with_reducible apply jRet)
    | (with_reducible apply jRetF)
    | (with_reducible apply jRetKR)
    | (with_reducible exact oEqB)
    | ((with_reducible refine oEqT ?_); omega)
    | ((with_reducible refine oEqF ?_); omega)
    | (with_reducible exact jTruR0)
    | (with_reducible exact jTruR1)
    | (with_reducible apply jTru)
    | (with_reducible apply jLst)
    | (with_reducible apply jLstM)
    | (with_reducible apply jPar)
    | (with_reducible apply jPar3)
    | (with_reducible apply jPart)
    | (with_reducible apply jIsi)
    | ((with_reducible show atI _ _ = _); rfl)
    | ((with_reducible show Nat.ble _ _ = true); rfl)
    | ((with_reducible refine oMod ?_); omega)
    | (with_reducible apply jAddR)
    | (with_reducible apply jAddL)
    | (with_reducible apply jAddT)
    | ((with_reducible refine oLeT ?_); omega)
    | ((with_reducible refine oLeF ?_); omega)
    | (with_reducible exact jYes)
    | (with_reducible exact jAsN)
    | (with_reducible apply jAsg)
    | (with_reducible apply jAsC)
    | (with_reducible apply jSetLast)
    | (with_reducible apply jSetC)
    | (with_reducible exact jWN)
    | (with_reducible apply jWC)
    | (with_reducible exact jNo)
    | (with_reducible apply jNot)
    | (with_reducible apply jNotV)
    | (with_reducible exact setEnd)
    | (with_reducible exact tyI)
    | (with_reducible exact oIsN)
    | (with_reducible exact oIsNotN)
    | (with_reducible exact oIsNotTT)
    | ((with_reducible refine oMul ?_); omega)
    | ((with_reducible apply jInsGt); omega)
    | (with_reducible exact neT2)
    | (with_reducible exact oNeg)
    | (with_reducible exact oNeB)
    | (with_reducible exact oNeL0)
    | (with_reducible exact oNeL1)
    | (with_reducible exact oNeL2)
    | (with_reducible exact oNeR0)
    | ((with_reducible refine oNeT ?_); omega)
    | ((with_reducible refine oNeF ?_); omega)
    | ((with_reducible refine jNeRT ?_); rfl)
    | (with_reducible apply jSq)
    | (with_reducible apply jSqF)
    | (with_reducible apply jUn)
    | (with_reducible exact jMpN)
    | (with_reducible apply jMpC)
    | (with_reducible apply jGTp)
    | ((with_reducible refine oLtT ?_); omega)
    | ((with_reducible refine oLtF ?_); omega)
    | (with_reducible apply jTup)
    | (with_reducible exact oIntI)
    | (with_reducible apply jOr)
    | (with_reducible apply jOrV)
    | (with_reducible exact jLcN)
    | (with_reducible exact jLc2N)
    | (with_reducible apply jLc)
    | (with_reducible apply jLcC)
    | (with_reducible apply jLcK)
    | (with_reducible apply jLc2)
    | (with_reducible apply jLc2C)
    | (with_reducible exact atLast)
    | (with_reducible apply jCh)
    | (with_reducible apply jChK)
    | (with_reducible apply jExpr)
    | (with_reducible exact oSub)
    | (with_reducible exact insNil)
    | ((with_reducible refine insLt ?_); omega)
    | ((with_reducible refine insEq ?_); omega)
    | (with_reducible exact eAsT)
    | (with_reducible exact eAsL)
    | (with_reducible exact kII)
    | (with_reducible exact kIB)
    | (with_reducible exact jGxN)
    | (with_reducible exact jGxM)
    | (with_reducible apply jGx)
    | (with_reducible apply jGxC)
    | (with_reducible apply jGxK)
    | (with_reducible exact oListT)
    | (with_reducible apply jLenT)
    | (with_reducible apply jLenL)
    | (with_reducible apply jLenR)
    | ((with_reducible refine oGtT ?_); omega)
    | ((with_reducible refine oGtF ?_); omega)
    | (with_reducible exact tyT)
    | (with_reducible exact kTT)
    | (with_reducible exact jKret)
    | (with_reducible exact jZN)
    | (with_reducible exact jZN2)
    | (with_reducible apply jZp)
    | (with_reducible apply jZC)
    | (with_reducible exact ssetN)
    | (with_reducible apply jSS)
    | ((with_reducible refine oGeT ?_); omega)
    | ((with_reducible refine oGeF ?_); omega)
    | (with_reducible exact asQT)
    | (with_reducible exact asQL)
    | (with_reducible apply jSlT)
    | ((with_reducible refine oDiv ?_); omega)
    | (with_reducible exact jFret)
    | (with_reducible exact iN1)
    | (with_reducible exact iN2)
    | (with_reducible exact iN3)
    | (with_reducible exact oTupL)
    | (with_reducible exact oTupT)
    | (with_reducible exact tyN)
    | (with_reducible exact tyB)
    | (with_reducible exact kIT)
    | (with_reducible exact kIL)
    | ((with_reducible refine oMaxL ?_); omega)
    | ((with_reducible refine oMaxR ?_); omega)
    | (show Int.toNat _ = _; (try simp only [List.length_cons, List.length_nil, Nat.zero_add, Nat.reduceAdd, Int.cast_ofNat_Int, Int.reduceToNat, Int.reduceSub, Int.toNat_natCast]); (try rfl); done)
    | (show List.length _ = _; (try simp only [List.length_cons, List.length_nil, List.length_append, List.cons_append, List.nil_append, Nat.zero_add, Nat.reduceAdd]); (try rfl); done)
    | (show Nat.ble _ _ = true; rfl)
    | (show atI _ _ = _; rfl)
    | (show one dAll _ _ = _; rfl)
    | (with_reducible rfl)
    | omega
    | with_reducible assumption)
  · repeat' (first
    | (with_reducible apply run__law_turnings)
    | (with_reducible exact jSet0)
    | (with_reducible apply jSetS)
    | ((with_reducible apply jVar); rfl)
    | (with_reducible apply jOp)
    | (with_reducible exact eC)
    | (with_reducible apply jCons)
    | (with_reducible exact jNil)
    | (with_reducible apply jSeq)
    | (with_reducible apply jKnx)
    | (with_reducible exact jSt0)
    | (with_reducible apply jStN)
    | (with_reducible apply jStC)
    | ((with_reducible refine jIteT ?hp ?_); case hp => rfl)
    | ((with_reducible refine jIteF ?hp ?_); case hp => exact Bool.false_ne_true)
    | ((with_reducible refine jIteF ?hp ?_); case hp => decide)
    | (with_reducible exact jApN)
    | (with_reducible apply jAppend)
    | (with_reducible apply jApC)
    | (with_reducible exact jGNl)
    | (with_reducible apply jGNm)
    | (with_reducible apply jIxT)
    | (with_reducible apply jIxL)
    | (with_reducible apply jIxR)
    | (with_reducible exact oAdd)
    | (with_reducible exact oTB)
    | (with_reducible apply jTst)
    | (with_reducible apply jIf)
    | (with_reducible apply jIfE)
    | (with_reducible apply jAnd)
    | (with_reducible apply jAndV)
    | (with_reducible apply jCall)
    | (with_reducible apply jSet)
    | (with_reducible exact cellEnd)
    | (with_reducible exact jForN)
    | (with_reducible apply jFor)
    | (with_reducible apply jForC)
    | (with_reducible apply jCB)
    | (with_reducible apply jFnx)
    | (with_reducible exact jSNil)
    | (with_reducible apply jGCs)
    | (with_reducible exact jRN)
    | (with_reducible apply jR1)
    | (with_reducible apply jR2)
    | (with_reducible apply jRS)
    | (with_reducible exact jRetKL)
    | (with_reducible apply jRet)
    | (with_reducible apply jRetF)
    | (with_reducible apply jRetKR)
    | (with_reducible exact oEqB)
    | ((with_reducible refine oEqT ?_); omega)
    | ((with_reducible refine oEqF ?_); omega)
    | (with_reducible exact jTruR0)
    | (with_reducible exact jTruR1)
    | (with_reducible apply jTru)
    | (with_reducible apply jLst)
    | (with_reducible apply jLstM)
    | (with_reducible apply jPar)
    | (with_reducible apply jPar3)
    | (with_reducible apply jPart)
    | (with_reducible apply jIsi)
    | ((with_reducible show atI _ _ = _); rfl)
    | ((with_reducible show Nat.ble _ _ = true); rfl)
    | ((with_reducible refine oMod ?_); omega)
    | (with_reducible apply jAddR)
    | (with_reducible apply jAddL)
    | (with_reducible apply jAddT)
    | ((with_reducible refine oLeT ?_); omega)
    | ((with_reducible refine oLeF ?_); omega)
    | (with_reducible exact jYes)
    | (with_reducible exact jAsN)
    | (with_reducible apply jAsg)
    | (with_reducible apply jAsC)
    | (with_reducible apply jSetLast)
    | (with_reducible apply jSetC)
    | (with_reducible exact jWN)
    | (with_reducible apply jWC)
    | (with_reducible exact jNo)
    | (with_reducible apply jNot)
    | (with_reducible apply jNotV)
    | (with_reducible exact setEnd)
    | (with_reducible exact tyI)
    | (with_reducible exact oIsN)
    | (with_reducible exact oIsNotN)
    | (with_reducible exact oIsNotTT)
    | ((with_reducible refine oMul ?_); omega)
    | ((with_reducible apply jInsGt); omega)
    | (with_reducible exact neT2)
    | (with_reducible exact oNeg)
    | (with_reducible exact oNeB)
    | (with_reducible exact oNeL0)
    | (with_reducible exact oNeL1)
    | (with_reducible exact oNeL2)
    | (with_reducible exact oNeR0)
    | ((with_reducible refine oNeT ?_); omega)
    | ((with_reducible refine oNeF ?_); omega)
    | ((with_reducible refine jNeRT ?_); rfl)
    | (with_reducible apply jSq)
    | (with_reducible apply jSqF)
    | (with_reducible apply jUn)
    | (with_reducible exact jMpN)
    | (with_reducible apply jMpC)
    | (with_reducible apply jGTp)
    | ((with_reducible refine oLtT ?_); omega)
    | ((with_reducible refine oLtF ?_); omega)
    | (with_reducible apply jTup)
    | (with_reducible exact oIntI)
    | (with_reducible apply jOr)
    | (with_reducible apply jOrV)
    | (with_reducible exact jLcN)
    | (with_reducible exact jLc2N)
    | (with_reducible apply jLc)
    | (with_reducible apply jLcC)
    | (with_reducible apply jLcK)
    | (with_reducible apply jLc2)
    | (with_reducible apply jLc2C)
    | (with_reducible exact atLast)
    | (with_reducible apply jCh)
    | (with_reducible apply jChK)
    | (with_reducible apply jExpr)
    | (with_reducible exact oSub)
    | (with_reducible exact insNil)
    | ((with_reducible refine insLt ?_); omega)
    | ((with_reducible refine insEq ?_); omega)
    | (with_reducible exact eAsT)
    | (with_reducible exact eAsL)
    | (with_reducible exact kII)
    | (with_reducible exact kIB)
    | (with_reducible exact jGxN)
    | (with_reducible exact jGxM)
    | (with_reducible apply jGx)
    | (with_reducible apply jGxC)
    | (with_reducible apply jGxK)
    | (with_reducible exact oListT)
    | (with_reducible apply jLenT)
    | (with_reducible apply jLenL)
    | (with_reducible apply jLenR)
    | ((with_reducible refine oGtT ?_); omega)
    | ((with_reducible refine oGtF ?_); omega)
    | (with_reducible exact tyT)
    | (with_reducible exact kTT)
    | (with_reducible exact jKret)
    | (with_reducible exact jZN)
    | (with_reducible exact jZN2)
    | (with_reducible apply jZp)
    | (with_reducible apply jZC)
    | (with_reducible exact ssetN)
    | (with_reducible apply jSS)
    | ((with_reducible refine oGeT ?_); omega)
    | ((with_reducible refine oGeF ?_); omega)
    | (with_reducible exact asQT)
    | (with_reducible exact asQL)
    | (with_reducible apply jSlT)
    | ((with_reducible refine oDiv ?_); omega)
    | (with_reducible exact jFret)
    | (with_reducible exact iN1)
    | (with_reducible exact iN2)
    | (with_reducible exact iN3)
    | (with_reducible exact oTupL)
    | (with_reducible exact oTupT)
    | (with_reducible exact tyN)
    | (with_reducible exact tyB)
    | (with_reducible exact kIT)
    | (with_reducible exact kIL)
    | ((with_reducible refine oMaxL ?_); omega)
    | ((with_reducible refine oMaxR ?_); omega)
    | (show Int.toNat _ = _; (try simp only [List.length_cons, List.length_nil, Nat.zero_add, Nat.reduceAdd, Int.cast_ofNat_Int, Int.reduceToNat, Int.reduceSub, Int.toNat_natCast]); (try rfl); done)
    | (show List.length _ = _; (try simp only [List.length_cons, List.length_nil, List.length_append, List.cons_append, List.nil_append, Nat.zero_add, Nat.reduceAdd]); (try rfl); done)
    | (show Nat.ble _ _ = true; rfl)
    | (show atI _ _ = _; rfl)
    | (show one dAll _ _ = _; rfl)
    | (with_reducible rfl)
    | omega
    | with_reducible assumption)
theorem ev_turnB (f g h i s : Int) (S : Store) (hh : 0 < s ∧ 0 < f ∧ f < 100000 ∧ h = f + s + 1 ∧ i = f + 2 * s + 2 ∧ i + s < g) : F__law_turnings [.tup [.int f, .int h, .int i, .int g], .int s] S = some (.int (0 + 1 + 1 + 1 + 1), S) := by
  by_cases hsf : s < f
  · repeat' (first
    | (with_reducible apply run__law_turnings)
    | (with_reducible exact jSet0)
    | (with_reducible apply jSetS)
    | ((with_reducible apply jVar); rfl)
    | (with_reducible apply jOp)
    | (with_reducible exact eC)
    | (with_reducible apply jCons)
    | (with_reducible exact jNil)
    | (with_reducible apply jSeq)
    | (with_reducible apply jKnx)
    | (with_reducible exact jSt0)
    | (with_reducible apply jStN)
    | (with_reducible apply jStC)
    | ((with_reducible refine jIteT ?hp ?_); case hp => rfl)
    | ((with_reducible refine jIteF ?hp ?_); case hp => exact Bool.false_ne_true)
    | ((with_reducible refine jIteF ?hp ?_); case hp => decide)
    | (with_reducible exact jApN)
    | (with_reducible apply jAppend)
    | (with_reducible apply jApC)
    | (with_reducible exact jGNl)
    | (with_reducible apply jGNm)
    | (with_reducible apply jIxT)
    | (with_reducible apply jIxL)
    | (with_reducible apply jIxR)
    | (with_reducible exact oAdd)
    | (with_reducible exact oTB)
    | (with_reducible apply jTst)
    | (with_reducible apply jIf)
    | (with_reducible apply jIfE)
    | (with_reducible apply jAnd)
    | (with_reducible apply jAndV)
    | (with_reducible apply jCall)
    | (with_reducible apply jSet)
    | (with_reducible exact cellEnd)
    | (with_reducible exact jForN)
    | (with_reducible apply jFor)
    | (with_reducible apply jForC)
    | (with_reducible apply jCB)
    | (with_reducible apply jFnx)
    | (with_reducible exact jSNil)
    | (with_reducible apply jGCs)
    | (with_reducible exact jRN)
    | (with_reducible apply jR1)
    | (with_reducible apply jR2)
    | (with_reducible apply jRS)
    | (with_reducible exact jRetKL)
    | (with_reducible apply jRet)
    | (with_reducible apply jRetF)
    | (with_reducible apply jRetKR)
    | (with_reducible exact oEqB)
    | ((with_reducible refine oEqT ?_); omega)
    | ((with_reducible refine oEqF ?_); omega)
    | (with_reducible exact jTruR0)
    | (with_reducible exact jTruR1)
    | (with_reducible apply jTru)
    | (with_reducible apply jLst)
    | (with_reducible apply jLstM)
    | (with_reducible apply jPar)
    | (with_reducible apply jPar3)
    | (with_reducible apply jPart)
    | (with_reducible apply jIsi)
    | ((with_reducible show atI _ _ = _); rfl)
    | ((with_reducible show Nat.ble _ _ = true); rfl)
    | ((with_reducible refine oMod ?_); omega)
    | (with_reducible apply jAddR)
    | (with_reducible apply jAddL)
    | (with_reducible apply jAddT)
    | ((with_reducible refine oLeT ?_); omega)
    | ((with_reducible refine oLeF ?_); omega)
    | (with_reducible exact jYes)
    | (with_reducible exact jAsN)
    | (with_reducible apply jAsg)
    | (with_reducible apply jAsC)
    | (with_reducible apply jSetLast)
    | (with_reducible apply jSetC)
    | (with_reducible exact jWN)
    | (with_reducible apply jWC)
    | (with_reducible exact jNo)
    | (with_reducible apply jNot)
    | (with_reducible apply jNotV)
    | (with_reducible exact setEnd)
    | (with_reducible exact tyI)
    | (with_reducible exact oIsN)
    | (with_reducible exact oIsNotN)
    | (with_reducible exact oIsNotTT)
    | ((with_reducible refine oMul ?_); omega)
    | ((with_reducible apply jInsGt); omega)
    | (with_reducible exact neT2)
    | (with_reducible exact oNeg)
    | (with_reducible exact oNeB)
    | (with_reducible exact oNeL0)
    | (with_reducible exact oNeL1)
    | (with_reducible exact oNeL2)
    | (with_reducible exact oNeR0)
    | ((with_reducible refine oNeT ?_); omega)
    | ((with_reducible refine oNeF ?_); omega)
    | ((with_reducible refine jNeRT ?_); rfl)
    | (with_reducible apply jSq)
    | (with_reducible apply jSqF)
    | (with_reducible apply jUn)
    | (with_reducible exact jMpN)
    | (with_reducible apply jMpC)
    | (with_reducible apply jGTp)
    | ((with_reducible refine oLtT ?_); omega)
    | ((with_reducible refine oLtF ?_); omega)
    | (with_reducible apply jTup)
    | (with_reducible exact oIntI)
    | (with_reducible apply jOr)
    | (with_reducible apply jOrV)
    | (with_reducible exact jLcN)
    | (with_reducible exact jLc2N)
    | (with_reducible apply jLc)
    | (with_reducible apply jLcC)
    | (with_reducible apply jLcK)
    | (with_reducible apply jLc2)
    | (with_reducible apply jLc2C)
    | (with_reducible exact atLast)
    | (with_reducible apply jCh)
    | (with_reducible apply jChK)
    | (with_reducible apply jExpr)
    | (with_reducible exact oSub)
    | (with_reducible exact insNil)
    | ((with_reducible refine insLt ?_); omega)
    | ((with_reducible refine insEq ?_); omega)
    | (with_reducible exact eAsT)
    | (with_reducible exact eAsL)
    | (with_reducible exact kII)
    | (with_reducible exact kIB)
    | (with_reducible exact jGxN)
    | (with_reducible exact jGxM)
    | (with_reducible apply jGx)
    | (with_reducible apply jGxC)
    | (with_reducible apply jGxK)
    | (with_reducible exact oListT)
    | (with_reducible apply jLenT)
    | (with_reducible apply jLenL)
    | (with_reducible apply jLenR)
    | ((with_reducible refine oGtT ?_); omega)
    | ((with_reducible refine oGtF ?_); omega)
    | (with_reducible exact tyT)
    | (with_reducible exact kTT)
    | (with_reducible exact jKret)
    | (with_reducible exact jZN)
    | (with_reducible exact jZN2)
    | (with_reducible apply jZp)
    | (with_reducible apply jZC)
    | (with_reducible exact ssetN)
    | (with_reducible apply jSS)
    | ((with_reducible refine oGeT ?_); omega)
    | ((with_reducible refine oGeF ?_); omega)
    | (with_reducible exact asQT)
    | (with_reducible exact asQL)
    | (with_reducible apply jSlT)
    | ((with_reducible refine oDiv ?_); omega)
    | (with_reducible exact jFret)
    | (with_reducible exact iN1)
    | (with_reducible exact iN2)
    | (with_reducible exact iN3)
    | (with_reducible exact oTupL)
    | (with_reducible exact oTupT)
    | (with_reducible exact tyN)
    | (with_reducible exact tyB)
    | (with_reducible exact kIT)
    | (with_reducible exact kIL)
    | ((with_reducible refine oMaxL ?_); omega)
    | ((with_reducible refine oMaxR ?_); omega)
    | (show Int.toNat _ = _; (try simp only [List.length_cons, List.length_nil, Nat.zero_add, Nat.reduceAdd, Int.cast_ofNat_Int, Int.reduceToNat, Int.reduceSub, Int.toNat_natCast]); (try rfl); done)
    | (show List.length _ = _; (try simp only [List.length_cons, List.length_nil, List.length_append, List.cons_append, List.nil_append, Nat.zero_add, Nat.reduceAdd]); (try rfl); done)
    | (show Nat.ble _ _ = true; rfl)
    | (show atI _ _ = _; rfl)
    | (show one dAll _ _ = _; rfl)
    | (with_reducible rfl)
    | omega
    | with_reducible assumption)
  · repeat' (first
    | (with_reducible apply run__law_turnings)
    | (with_reducible exact jSet0)
    | (with_reducible apply jSetS)
    | ((with_reducible apply jVar); rfl)
    | (with_reducible apply jOp)
    | (with_reducible exact eC)
    | (with_reducible apply jCons)
    | (with_reducible exact jNil)
    | (with_reducible apply jSeq)
    | (with_reducible apply jKnx)
    | (with_reducible exact jSt0)
    | (with_reducible apply jStN)
    | (with_reducible apply jStC)
    | ((with_reducible refine jIteT ?hp ?_); case hp => rfl)
    | ((with_reducible refine jIteF ?hp ?_); case hp => exact Bool.false_ne_true)
    | ((with_reducible refine jIteF ?hp ?_); case hp => decide)
    | (with_reducible exact jApN)
    | (with_reducible apply jAppend)
    | (with_reducible apply jApC)
    | (with_reducible exact jGNl)
    | (with_reducible apply jGNm)
    | (with_reducible apply jIxT)
    | (with_reducible apply jIxL)
    | (with_reducible apply jIxR)
    | (with_reducible exact oAdd)
    | (with_reducible exact oTB)
    | (with_reducible apply jTst)
    | (with_reducible apply jIf)
    | (with_reducible apply jIfE)
    | (with_reducible apply jAnd)
    | (with_reducible apply jAndV)
    | (with_reducible apply jCall)
    | (with_reducible apply jSet)
    | (with_reducible exact cellEnd)
    | (with_reducible exact jForN)
    | (with_reducible apply jFor)
    | (with_reducible apply jForC)
    | (with_reducible apply jCB)
    | (with_reducible apply jFnx)
    | (with_reducible exact jSNil)
    | (with_reducible apply jGCs)
    | (with_reducible exact jRN)
    | (with_reducible apply jR1)
    | (with_reducible apply jR2)
    | (with_reducible apply jRS)
    | (with_reducible exact jRetKL)
    | (with_reducible apply jRet)
    | (with_reducible apply jRetF)
    | (with_reducible apply jRetKR)
    | (with_reducible exact oEqB)
    | ((with_reducible refine oEqT ?_); omega)
    | ((with_reducible refine oEqF ?_); omega)
    | (with_reducible exact jTruR0)
    | (with_reducible exact jTruR1)
    | (with_reducible apply jTru)
    | (with_reducible apply jLst)
    | (with_reducible apply jLstM)
    | (with_reducible apply jPar)
    | (with_reducible apply jPar3)
    | (with_reducible apply jPart)
    | (with_reducible apply jIsi)
    | ((with_reducible show atI _ _ = _); rfl)
    | ((with_reducible show Nat.ble _ _ = true); rfl)
    | ((with_reducible refine oMod ?_); omega)
    | (with_reducible apply jAddR)
    | (with_reducible apply jAddL)
    | (with_reducible apply jAddT)
    | ((with_reducible refine oLeT ?_); omega)
    | ((with_reducible refine oLeF ?_); omega)
    | (with_reducible exact jYes)
    | (with_reducible exact jAsN)
    | (with_reducible apply jAsg)
    | (with_reducible apply jAsC)
    | (with_reducible apply jSetLast)
    | (with_reducible apply jSetC)
    | (with_reducible exact jWN)
    | (with_reducible apply jWC)
    | (with_reducible exact jNo)
    | (with_reducible apply jNot)
    | (with_reducible apply jNotV)
    | (with_reducible exact setEnd)
    | (with_reducible exact tyI)
    | (with_reducible exact oIsN)
    | (with_reducible exact oIsNotN)
    | (with_reducible exact oIsNotTT)
    | ((with_reducible refine oMul ?_); omega)
    | ((with_reducible apply jInsGt); omega)
    | (with_reducible exact neT2)
    | (with_reducible exact oNeg)
    | (with_reducible exact oNeB)
    | (with_reducible exact oNeL0)
    | (with_reducible exact oNeL1)
    | (with_reducible exact oNeL2)
    | (with_reducible exact oNeR0)
    | ((with_reducible refine oNeT ?_); omega)
    | ((with_reducible refine oNeF ?_); omega)
    | ((with_reducible refine jNeRT ?_); rfl)
    | (with_reducible apply jSq)
    | (with_reducible apply jSqF)
    | (with_reducible apply jUn)
    | (with_reducible exact jMpN)
    | (with_reducible apply jMpC)
    | (with_reducible apply jGTp)
    | ((with_reducible refine oLtT ?_); omega)
    | ((with_reducible refine oLtF ?_); omega)
    | (with_reducible apply jTup)
    | (with_reducible exact oIntI)
    | (with_reducible apply jOr)
    | (with_reducible apply jOrV)
    | (with_reducible exact jLcN)
    | (with_reducible exact jLc2N)
    | (with_reducible apply jLc)
    | (with_reducible apply jLcC)
    | (with_reducible apply jLcK)
    | (with_reducible apply jLc2)
    | (with_reducible apply jLc2C)
    | (with_reducible exact atLast)
    | (with_reducible apply jCh)
    | (with_reducible apply jChK)
    | (with_reducible apply jExpr)
    | (with_reducible exact oSub)
    | (with_reducible exact insNil)
    | ((with_reducible refine insLt ?_); omega)
    | ((with_reducible refine insEq ?_); omega)
    | (with_reducible exact eAsT)
    | (with_reducible exact eAsL)
    | (with_reducible exact kII)
    | (with_reducible exact kIB)
    | (with_reducible exact jGxN)
    | (with_reducible exact jGxM)
    | (with_reducible apply jGx)
    | (with_reducible apply jGxC)
    | (with_reducible apply jGxK)
    | (with_reducible exact oListT)
    | (with_reducible apply jLenT)
    | (with_reducible apply jLenL)
    | (with_reducible apply jLenR)
    | ((with_reducible refine oGtT ?_); omega)
    | ((with_reducible refine oGtF ?_); omega)
    | (with_reducible exact tyT)
    | (with_reducible exact kTT)
    | (with_reducible exact jKret)
    | (with_reducible exact jZN)
    | (with_reducible exact jZN2)
    | (with_reducible apply jZp)
    | (with_reducible apply jZC)
    | (with_reducible exact ssetN)
    | (with_reducible apply jSS)
    | ((with_reducible refine oGeT ?_); omega)
    | ((with_reducible refine oGeF ?_); omega)
    | (with_reducible exact asQT)
    | (with_reducible exact asQL)
    | (with_reducible apply jSlT)
    | ((with_reducible refine oDiv ?_); omega)
    | (with_reducible exact jFret)
    | (with_reducible exact iN1)
    | (with_reducible exact iN2)
    | (with_reducible exact iN3)
    | (with_reducible exact oTupL)
    | (with_reducible exact oTupT)
    | (with_reducible exact tyN)
    | (with_reducible exact tyB)
    | (with_reducible exact kIT)
    | (with_reducible exact kIL)
    | ((with_reducible refine oMaxL ?_); omega)
    | ((with_reducible refine oMaxR ?_); omega)
    | (show Int.toNat _ = _; (try simp only [List.length_cons, List.length_nil, Nat.zero_add, Nat.reduceAdd, Int.cast_ofNat_Int, Int.reduceToNat, Int.reduceSub, Int.toNat_natCast]); (try rfl); done)
    | (show List.length _ = _; (try simp only [List.length_cons, List.length_nil, List.length_append, List.cons_append, List.nil_append, Nat.zero_add, Nat.reduceAdd]); (try rfl); done)
    | (show Nat.ble _ _ = true; rfl)
    | (show atI _ _ = _; rfl)
    | (show one dAll _ _ = _; rfl)
    | (with_reducible rfl)
    | omega
    | with_reducible assumption)
theorem ev_nums0 (S : Store) : F__law_are_numbers [.tup [], .int 0, .int 1000000, .int 2] S = some (.bl true, S) := by
  repeat' (first
    | (with_reducible apply run__law_are_numbers)
    | (with_reducible apply run__law_is_number)
    | (with_reducible apply run__law_are_rising)
    | (with_reducible exact jSet0)
    | (with_reducible apply jSetS)
    | ((with_reducible apply jVar); rfl)
    | (with_reducible apply jOp)
    | (with_reducible exact eC)
    | (with_reducible apply jCons)
    | (with_reducible exact jNil)
    | (with_reducible apply jSeq)
    | (with_reducible apply jKnx)
    | (with_reducible exact jSt0)
    | (with_reducible apply jStN)
    | (with_reducible apply jStC)
    | ((with_reducible refine jIteT ?hp ?_); case hp => rfl)
    | ((with_reducible refine jIteF ?hp ?_); case hp => exact Bool.false_ne_true)
    | ((with_reducible refine jIteF ?hp ?_); case hp => decide)
    | (with_reducible exact jApN)
    | (with_reducible apply jAppend)
    | (with_reducible apply jApC)
    | (with_reducible exact jGNl)
    | (with_reducible apply jGNm)
    | (with_reducible apply jIxT)
    | (with_reducible apply jIxL)
    | (with_reducible apply jIxR)
    | (with_reducible exact oAdd)
    | (with_reducible exact oTB)
    | (with_reducible apply jTst)
    | (with_reducible apply jIf)
    | (with_reducible apply jIfE)
    | (with_reducible apply jAnd)
    | (with_reducible apply jAndV)
    | (with_reducible apply jCall)
    | (with_reducible apply jSet)
    | (with_reducible exact cellEnd)
    | (with_reducible exact jForN)
    | (with_reducible apply jFor)
    | (with_reducible apply jForC)
    | (with_reducible apply jCB)
    | (with_reducible apply jFnx)
    | (with_reducible exact jSNil)
    | (with_reducible apply jGCs)
    | (with_reducible exact jRN)
    | (with_reducible apply jR1)
    | (with_reducible apply jR2)
    | (with_reducible apply jRS)
    | (with_reducible exact jRetKL)
    | (with_reducible apply jRet)
    | (with_reducible apply jRetF)
    | (with_reducible apply jRetKR)
    | (with_reducible exact oEqB)
    | ((with_reducible refine oEqT ?_); omega)
    | ((with_reducible refine oEqF ?_); omega)
    | (with_reducible exact jTruR0)
    | (with_reducible exact jTruR1)
    | (with_reducible apply jTru)
    | (with_reducible apply jLst)
    | (with_reducible apply jLstM)
    | (with_reducible apply jPar)
    | (with_reducible apply jPar3)
    | (with_reducible apply jPart)
    | (with_reducible apply jIsi)
    | ((with_reducible show atI _ _ = _); rfl)
    | ((with_reducible show Nat.ble _ _ = true); rfl)
    | ((with_reducible refine oMod ?_); omega)
    | (with_reducible apply jAddR)
    | (with_reducible apply jAddL)
    | (with_reducible apply jAddT)
    | ((with_reducible refine oLeT ?_); omega)
    | ((with_reducible refine oLeF ?_); omega)
    | (with_reducible exact jYes)
    | (with_reducible exact jAsN)
    | (with_reducible apply jAsg)
    | (with_reducible apply jAsC)
    | (with_reducible apply jSetLast)
    | (with_reducible apply jSetC)
    | (with_reducible exact jWN)
    | (with_reducible apply jWC)
    | (with_reducible exact jNo)
    | (with_reducible apply jNot)
    | (with_reducible apply jNotV)
    | (with_reducible exact setEnd)
    | (with_reducible exact tyI)
    | (with_reducible exact oIsN)
    | (with_reducible exact oIsNotN)
    | (with_reducible exact oIsNotTT)
    | ((with_reducible refine oMul ?_); omega)
    | ((with_reducible apply jInsGt); omega)
    | (with_reducible exact neT2)
    | (with_reducible exact oNeg)
    | (with_reducible exact oNeB)
    | (with_reducible exact oNeL0)
    | (with_reducible exact oNeL1)
    | (with_reducible exact oNeL2)
    | (with_reducible exact oNeR0)
    | ((with_reducible refine oNeT ?_); omega)
    | ((with_reducible refine oNeF ?_); omega)
    | ((with_reducible refine jNeRT ?_); rfl)
    | (with_reducible apply jSq)
    | (with_reducible apply jSqF)
    | (with_reducible apply jUn)
    | (with_reducible exact jMpN)
    | (with_reducible apply jMpC)
    | (with_reducible apply jGTp)
    | ((with_reducible refine oLtT ?_); omega)
    | ((with_reducible refine oLtF ?_); omega)
    | (with_reducible apply jTup)
    | (with_reducible exact oIntI)
    | (with_reducible apply jOr)
    | (with_reducible apply jOrV)
    | (with_reducible exact jLcN)
    | (with_reducible exact jLc2N)
    | (with_reducible apply jLc)
    | (with_reducible apply jLcC)
    | (with_reducible apply jLcK)
    | (with_reducible apply jLc2)
    | (with_reducible apply jLc2C)
    | (with_reducible exact atLast)
    | (with_reducible apply jCh)
    | (with_reducible apply jChK)
    | (with_reducible apply jExpr)
    | (with_reducible exact oSub)
    | (with_reducible exact insNil)
    | ((with_reducible refine insLt ?_); omega)
    | ((with_reducible refine insEq ?_); omega)
    | (with_reducible exact eAsT)
    | (with_reducible exact eAsL)
    | (with_reducible exact kII)
    | (with_reducible exact kIB)
    | (with_reducible exact jGxN)
    | (with_reducible exact jGxM)
    | (with_reducible apply jGx)
    | (with_reducible apply jGxC)
    | (with_reducible apply jGxK)
    | (with_reducible exact oListT)
    | (with_reducible apply jLenT)
    | (with_reducible apply jLenL)
    | (with_reducible apply jLenR)
    | ((with_reducible refine oGtT ?_); omega)
    | ((with_reducible refine oGtF ?_); omega)
    | (with_reducible exact tyT)
    | (with_reducible exact kTT)
    | (with_reducible exact jKret)
    | (with_reducible exact jZN)
    | (with_reducible exact jZN2)
    | (with_reducible apply jZp)
    | (with_reducible apply jZC)
    | (with_reducible exact ssetN)
    | (with_reducible apply jSS)
    | ((with_reducible refine oGeT ?_); omega)
    | ((with_reducible refine oGeF ?_); omega)
    | (with_reducible exact asQT)
    | (with_reducible exact asQL)
    | (with_reducible apply jSlT)
    | ((with_reducible refine oDiv ?_); omega)
    | (with_reducible exact jFret)
    | (with_reducible exact iN1)
    | (with_reducible exact iN2)
    | (with_reducible exact iN3)
    | (with_reducible exact oTupL)
    | (with_reducible exact oTupT)
    | (with_reducible exact tyN)
    | (with_reducible exact tyB)
    | (with_reducible exact kIT)
    | (with_reducible exact kIL)
    | ((with_reducible refine oMaxL ?_); omega)
    | ((with_reducible refine oMaxR ?_); omega)
    | (show Int.toNat _ = _; (try simp only [List.length_cons, List.length_nil, Nat.zero_add, Nat.reduceAdd, Int.cast_ofNat_Int, Int.reduceToNat, Int.reduceSub, Int.toNat_natCast]); (try rfl); done)
    | (show List.length _ = _; (try simp only [List.length_cons, List.length_nil, List.length_append, List.cons_append, List.nil_append, Nat.zero_add, Nat.reduceAdd]); (try rfl); done)
    | (show Nat.ble _ _ = true; rfl)
    | (show atI _ _ = _; rfl)
    | (show one dAll _ _ = _; rfl)
    | (with_reducible rfl)
    | omega
    | with_reducible assumption)
theorem ev_nums2 (f g m : Int) (S : Store) (h : 0 ≤ f ∧ f < g ∧ g ≤ 1000000 ∧ 2 ≤ m) : F__law_are_numbers [.tup [.int f, .int g], .int 0, .int 1000000, .int m] S = some (.bl true, S) := by
  repeat' (first
    | (with_reducible apply run__law_are_numbers)
    | (with_reducible apply run__law_is_number)
    | (with_reducible apply run__law_are_rising)
    | (with_reducible exact jSet0)
    | (with_reducible apply jSetS)
    | ((with_reducible apply jVar); rfl)
    | (with_reducible apply jOp)
    | (with_reducible exact eC)
    | (with_reducible apply jCons)
    | (with_reducible exact jNil)
    | (with_reducible apply jSeq)
    | (with_reducible apply jKnx)
    | (with_reducible exact jSt0)
    | (with_reducible apply jStN)
    | (with_reducible apply jStC)
    | ((with_reducible refine jIteT ?hp ?_); case hp => rfl)
    | ((with_reducible refine jIteF ?hp ?_); case hp => exact Bool.false_ne_true)
    | ((with_reducible refine jIteF ?hp ?_); case hp => decide)
    | (with_reducible exact jApN)
    | (with_reducible apply jAppend)
    | (with_reducible apply jApC)
    | (with_reducible exact jGNl)
    | (with_reducible apply jGNm)
    | (with_reducible apply jIxT)
    | (with_reducible apply jIxL)
    | (with_reducible apply jIxR)
    | (with_reducible exact oAdd)
    | (with_reducible exact oTB)
    | (with_reducible apply jTst)
    | (with_reducible apply jIf)
    | (with_reducible apply jIfE)
    | (with_reducible apply jAnd)
    | (with_reducible apply jAndV)
    | (with_reducible apply jCall)
    | (with_reducible apply jSet)
    | (with_reducible exact cellEnd)
    | (with_reducible exact jForN)
    | (with_reducible apply jFor)
    | (with_reducible apply jForC)
    | (with_reducible apply jCB)
    | (with_reducible apply jFnx)
    | (with_reducible exact jSNil)
    | (with_reducible apply jGCs)
    | (with_reducible exact jRN)
    | (with_reducible apply jR1)
    | (with_reducible apply jR2)
    | (with_reducible apply jRS)
    | (with_reducible exact jRetKL)
    | (with_reducible apply jRet)
    | (with_reducible apply jRetF)
    | (with_reducible apply jRetKR)
    | (with_reducible exact oEqB)
    | ((with_reducible refine oEqT ?_); omega)
    | ((with_reducible refine oEqF ?_); omega)
    | (with_reducible exact jTruR0)
    | (with_reducible exact jTruR1)
    | (with_reducible apply jTru)
    | (with_reducible apply jLst)
    | (with_reducible apply jLstM)
    | (with_reducible apply jPar)
    | (with_reducible apply jPar3)
    | (with_reducible apply jPart)
    | (with_reducible apply jIsi)
    | ((with_reducible show atI _ _ = _); rfl)
    | ((with_reducible show Nat.ble _ _ = true); rfl)
    | ((with_reducible refine oMod ?_); omega)
    | (with_reducible apply jAddR)
    | (with_reducible apply jAddL)
    | (with_reducible apply jAddT)
    | ((with_reducible refine oLeT ?_); omega)
    | ((with_reducible refine oLeF ?_); omega)
    | (with_reducible exact jYes)
    | (with_reducible exact jAsN)
    | (with_reducible apply jAsg)
    | (with_reducible apply jAsC)
    | (with_reducible apply jSetLast)
    | (with_reducible apply jSetC)
    | (with_reducible exact jWN)
    | (with_reducible apply jWC)
    | (with_reducible exact jNo)
    | (with_reducible apply jNot)
    | (with_reducible apply jNotV)
    | (with_reducible exact setEnd)
    | (with_reducible exact tyI)
    | (with_reducible exact oIsN)
    | (with_reducible exact oIsNotN)
    | (with_reducible exact oIsNotTT)
    | ((with_reducible refine oMul ?_); omega)
    | ((with_reducible apply jInsGt); omega)
    | (with_reducible exact neT2)
    | (with_reducible exact oNeg)
    | (with_reducible exact oNeB)
    | (with_reducible exact oNeL0)
    | (with_reducible exact oNeL1)
    | (with_reducible exact oNeL2)
    | (with_reducible exact oNeR0)
    | ((with_reducible refine oNeT ?_); omega)
    | ((with_reducible refine oNeF ?_); omega)
    | ((with_reducible refine jNeRT ?_); rfl)
    | (with_reducible apply jSq)
    | (with_reducible apply jSqF)
    | (with_reducible apply jUn)
    | (with_reducible exact jMpN)
    | (with_reducible apply jMpC)
    | (with_reducible apply jGTp)
    | ((with_reducible refine oLtT ?_); omega)
    | ((with_reducible refine oLtF ?_); omega)
    | (with_reducible apply jTup)
    | (with_reducible exact oIntI)
    | (with_reducible apply jOr)
    | (with_reducible apply jOrV)
    | (with_reducible exact jLcN)
    | (with_reducible exact jLc2N)
    | (with_reducible apply jLc)
    | (with_reducible apply jLcC)
    | (with_reducible apply jLcK)
    | (with_reducible apply jLc2)
    | (with_reducible apply jLc2C)
    | (with_reducible exact atLast)
    | (with_reducible apply jCh)
    | (with_reducible apply jChK)
    | (with_reducible apply jExpr)
    | (with_reducible exact oSub)
    | (with_reducible exact insNil)
    | ((with_reducible refine insLt ?_); omega)
    | ((with_reducible refine insEq ?_); omega)
    | (with_reducible exact eAsT)
    | (with_reducible exact eAsL)
    | (with_reducible exact kII)
    | (with_reducible exact kIB)
    | (with_reducible exact jGxN)
    | (with_reducible exact jGxM)
    | (with_reducible apply jGx)
    | (with_reducible apply jGxC)
    | (with_reducible apply jGxK)
    | (with_reducible exact oListT)
    | (with_reducible apply jLenT)
    | (with_reducible apply jLenL)
    | (with_reducible apply jLenR)
    | ((with_reducible refine oGtT ?_); omega)
    | ((with_reducible refine oGtF ?_); omega)
    | (with_reducible exact tyT)
    | (with_reducible exact kTT)
    | (with_reducible exact jKret)
    | (with_reducible exact jZN)
    | (with_reducible exact jZN2)
    | (with_reducible apply jZp)
    | (with_reducible apply jZC)
    | (with_reducible exact ssetN)
    | (with_reducible apply jSS)
    | ((with_reducible refine oGeT ?_); omega)
    | ((with_reducible refine oGeF ?_); omega)
    | (with_reducible exact asQT)
    | (with_reducible exact asQL)
    | (with_reducible apply jSlT)
    | ((with_reducible refine oDiv ?_); omega)
    | (with_reducible exact jFret)
    | (with_reducible exact iN1)
    | (with_reducible exact iN2)
    | (with_reducible exact iN3)
    | (with_reducible exact oTupL)
    | (with_reducible exact oTupT)
    | (with_reducible exact tyN)
    | (with_reducible exact tyB)
    | (with_reducible exact kIT)
    | (with_reducible exact kIL)
    | ((with_reducible refine oMaxL ?_); omega)
    | ((with_reducible refine oMaxR ?_); omega)
    | (show Int.toNat _ = _; (try simp only [List.length_cons, List.length_nil, Nat.zero_add, Nat.reduceAdd, Int.cast_ofNat_Int, Int.reduceToNat, Int.reduceSub, Int.toNat_natCast]); (try rfl); done)
    | (show List.length _ = _; (try simp only [List.length_cons, List.length_nil, List.length_append, List.cons_append, List.nil_append, Nat.zero_add, Nat.reduceAdd]); (try rfl); done)
    | (show Nat.ble _ _ = true; rfl)
    | (show atI _ _ = _; rfl)
    | (show one dAll _ _ = _; rfl)
    | (with_reducible rfl)
    | omega
    | with_reducible assumption)
theorem ev_nums4 (f g h i : Int) (S : Store) (hh : 0 ≤ f ∧ f < g ∧ g < h ∧ h < i ∧ i ≤ 1000000) : F__law_are_numbers [.tup [.int f, .int g, .int h, .int i], .int 0, .int 1000000, .int 400] S = some (.bl true, S) := by
  repeat' (first
    | (with_reducible apply run__law_are_numbers)
    | (with_reducible apply run__law_is_number)
    | (with_reducible apply run__law_are_rising)
    | (with_reducible exact jSet0)
    | (with_reducible apply jSetS)
    | ((with_reducible apply jVar); rfl)
    | (with_reducible apply jOp)
    | (with_reducible exact eC)
    | (with_reducible apply jCons)
    | (with_reducible exact jNil)
    | (with_reducible apply jSeq)
    | (with_reducible apply jKnx)
    | (with_reducible exact jSt0)
    | (with_reducible apply jStN)
    | (with_reducible apply jStC)
    | ((with_reducible refine jIteT ?hp ?_); case hp => rfl)
    | ((with_reducible refine jIteF ?hp ?_); case hp => exact Bool.false_ne_true)
    | ((with_reducible refine jIteF ?hp ?_); case hp => decide)
    | (with_reducible exact jApN)
    | (with_reducible apply jAppend)
    | (with_reducible apply jApC)
    | (with_reducible exact jGNl)
    | (with_reducible apply jGNm)
    | (with_reducible apply jIxT)
    | (with_reducible apply jIxL)
    | (with_reducible apply jIxR)
    | (with_reducible exact oAdd)
    | (with_reducible exact oTB)
    | (with_reducible apply jTst)
    | (with_reducible apply jIf)
    | (with_reducible apply jIfE)
    | (with_reducible apply jAnd)
    | (with_reducible apply jAndV)
    | (with_reducible apply jCall)
    | (with_reducible apply jSet)
    | (with_reducible exact cellEnd)
    | (with_reducible exact jForN)
    | (with_reducible apply jFor)
    | (with_reducible apply jForC)
    | (with_reducible apply jCB)
    | (with_reducible apply jFnx)
    | (with_reducible exact jSNil)
    | (with_reducible apply jGCs)
    | (with_reducible exact jRN)
    | (with_reducible apply jR1)
    | (with_reducible apply jR2)
    | (with_reducible apply jRS)
    | (with_reducible exact jRetKL)
    | (with_reducible apply jRet)
    | (with_reducible apply jRetF)
    | (with_reducible apply jRetKR)
    | (with_reducible exact oEqB)
    | ((with_reducible refine oEqT ?_); omega)
    | ((with_reducible refine oEqF ?_); omega)
    | (with_reducible exact jTruR0)
    | (with_reducible exact jTruR1)
    | (with_reducible apply jTru)
    | (with_reducible apply jLst)
    | (with_reducible apply jLstM)
    | (with_reducible apply jPar)
    | (with_reducible apply jPar3)
    | (with_reducible apply jPart)
    | (with_reducible apply jIsi)
    | ((with_reducible show atI _ _ = _); rfl)
    | ((with_reducible show Nat.ble _ _ = true); rfl)
    | ((with_reducible refine oMod ?_); omega)
    | (with_reducible apply jAddR)
    | (with_reducible apply jAddL)
    | (with_reducible apply jAddT)
    | ((with_reducible refine oLeT ?_); omega)
    | ((with_reducible refine oLeF ?_); omega)
    | (with_reducible exact jYes)
    | (with_reducible exact jAsN)
    | (with_reducible apply jAsg)
    | (with_reducible apply jAsC)
    | (with_reducible apply jSetLast)
    | (with_reducible apply jSetC)
    | (with_reducible exact jWN)
    | (with_reducible apply jWC)
    | (with_reducible exact jNo)
    | (with_reducible apply jNot)
    | (with_reducible apply jNotV)
    | (with_reducible exact setEnd)
    | (with_reducible exact tyI)
    | (with_reducible exact oIsN)
    | (with_reducible exact oIsNotN)
    | (with_reducible exact oIsNotTT)
    | ((with_reducible refine oMul ?_); omega)
    | ((with_reducible apply jInsGt); omega)
    | (with_reducible exact neT2)
    | (with_reducible exact oNeg)
    | (with_reducible exact oNeB)
    | (with_reducible exact oNeL0)
    | (with_reducible exact oNeL1)
    | (with_reducible exact oNeL2)
    | (with_reducible exact oNeR0)
    | ((with_reducible refine oNeT ?_); omega)
    | ((with_reducible refine oNeF ?_); omega)
    | ((with_reducible refine jNeRT ?_); rfl)
    | (with_reducible apply jSq)
    | (with_reducible apply jSqF)
    | (with_reducible apply jUn)
    | (with_reducible exact jMpN)
    | (with_reducible apply jMpC)
    | (with_reducible apply jGTp)
    | ((with_reducible refine oLtT ?_); omega)
    | ((with_reducible refine oLtF ?_); omega)
    | (with_reducible apply jTup)
    | (with_reducible exact oIntI)
    | (with_reducible apply jOr)
    | (with_reducible apply jOrV)
    | (with_reducible exact jLcN)
    | (with_reducible exact jLc2N)
    | (with_reducible apply jLc)
    | (with_reducible apply jLcC)
    | (with_reducible apply jLcK)
    | (with_reducible apply jLc2)
    | (with_reducible apply jLc2C)
    | (with_reducible exact atLast)
    | (with_reducible apply jCh)
    | (with_reducible apply jChK)
    | (with_reducible apply jExpr)
    | (with_reducible exact oSub)
    | (with_reducible exact insNil)
    | ((with_reducible refine insLt ?_); omega)
    | ((with_reducible refine insEq ?_); omega)
    | (with_reducible exact eAsT)
    | (with_reducible exact eAsL)
    | (with_reducible exact kII)
    | (with_reducible exact kIB)
    | (with_reducible exact jGxN)
    | (with_reducible exact jGxM)
    | (with_reducible apply jGx)
    | (with_reducible apply jGxC)
    | (with_reducible apply jGxK)
    | (with_reducible exact oListT)
    | (with_reducible apply jLenT)
    | (with_reducible apply jLenL)
    | (with_reducible apply jLenR)
    | ((with_reducible refine oGtT ?_); omega)
    | ((with_reducible refine oGtF ?_); omega)
    | (with_reducible exact tyT)
    | (with_reducible exact kTT)
    | (with_reducible exact jKret)
    | (with_reducible exact jZN)
    | (with_reducible exact jZN2)
    | (with_reducible apply jZp)
    | (with_reducible apply jZC)
    | (with_reducible exact ssetN)
    | (with_reducible apply jSS)
    | ((with_reducible refine oGeT ?_); omega)
    | ((with_reducible refine oGeF ?_); omega)
    | (with_reducible exact asQT)
    | (with_reducible exact asQL)
    | (with_reducible apply jSlT)
    | ((with_reducible refine oDiv ?_); omega)
    | (with_reducible exact jFret)
    | (with_reducible exact iN1)
    | (with_reducible exact iN2)
    | (with_reducible exact iN3)
    | (with_reducible exact oTupL)
    | (with_reducible exact oTupT)
    | (with_reducible exact tyN)
    | (with_reducible exact tyB)
    | (with_reducible exact kIT)
    | (with_reducible exact kIL)
    | ((with_reducible refine oMaxL ?_); omega)
    | ((with_reducible refine oMaxR ?_); omega)
    | (show Int.toNat _ = _; (try simp only [List.length_cons, List.length_nil, Nat.zero_add, Nat.reduceAdd, Int.cast_ofNat_Int, Int.reduceToNat, Int.reduceSub, Int.toNat_natCast]); (try rfl); done)
    | (show List.length _ = _; (try simp only [List.length_cons, List.length_nil, List.length_append, List.cons_append, List.nil_append, Nat.zero_add, Nat.reduceAdd]); (try rfl); done)
    | (show Nat.ble _ _ = true; rfl)
    | (show atI _ _ = _; rfl)
    | (show one dAll _ _ = _; rfl)
    | (with_reducible rfl)
    | omega
    | with_reducible assumption)
end K51

namespace K51
open PySem PySem.Spec PyProof.Rows L2 DL
section
variable {K : PySem.W.Frag} {S : Store}
/-- the machine as it stands -/
abbrev stM (K : PySem.W.Frag) (s : Int) (d : Bool) (x : D) : Cell := .ins (He.ga K "Settler") [("_settle", .int s), ("_is_down", .bl d), ("_first", x)]
theorem ne1 : (("_is_down" : Str) = "_settle") = False := by decide
theorem ne2 : (("_first" : Str) = "_settle") = False := by decide
theorem ne3 : (("_first" : Str) = "_is_down") = False := by decide
theorem ne4 : (("_settle" : Str) = "_is_down") = False := by decide
theorem ne5 : (("_settle" : Str) = "_first") = False := by decide
theorem ne6 : (("_is_down" : Str) = "_first") = False := by decide
theorem ne7 : (("hear" : Str) = "_settle") = False := by decide
theorem ne8 : (("hear" : Str) = "_is_down") = False := by decide
theorem ne9 : (("hear" : Str) = "_first") = False := by decide
theorem cellIEnd {C : Addr} {fs : List (Str × D)} : cellI (S ++ [.ins C fs]) S.length = some (C, fs) := by unfold cellI; rw [List.getElem?_append_right (Nat.le_refl _), Nat.sub_self]; rfl
theorem zFld {C : Addr} {f : Str} {a : FE} {sl : Slots} : fFld C f a sl S = (a sl S).bind fun p => (match p.1 with
  | .ref n => (cellI p.2 n).bind fun z => if z.1 = C then (getD_ f z.2).bind fun d => some (d, p.2) else none
  | _ => none) := rfl
theorem zFldD {C : Addr} {f : Str} {a o : FE} {sl : Slots} : sFldD C f a o sl S = (a sl S).bind fun p => (o sl p.2).bind fun q => (match q.1 with
  | .ref n => (cellI q.2 n).bind fun z => if z.1 = C ∧ z.2.length < 1000 then some (.nx, sl, q.2.set n (.ins C (putD f p.1 z.2))) else none
  | _ => none) := rfl
theorem zFld2 {C : Addr} {f g : Str} {a b o : FE} {sl : Slots} : sFld2 C f g a b o sl S = (a sl S).bind fun p => (b sl p.2).bind fun q => (o sl q.2).bind fun r => (match r.1 with
  | .ref n => (cellI r.2 n).bind fun z => if z.1 = C ∧ z.2.length < 900 then (o sl (r.2.set n (.ins C (putD f p.1 z.2)))).bind fun r2 => (match r2.1 with
      | .ref m => (cellI r2.2 m).bind fun z2 => if z2.1 = C ∧ z2.2.length < 1000 then some (.nx, sl, r2.2.set m (.ins C (putD g q.1 z2.2))) else none
      | _ => none)
    else none
  | _ => none) := rfl
theorem hear_same (s t : Int) (d : Bool) (x : D) : F_Settler_hear K [.ref S.length, .int t, .bl d] (S ++ [stM K s d x]) = some (.bl false, S ++ [stM K s d .non]) := by
  cases d <;> simp (disch := omega) only [F_Settler_hear, B_Settler_hear, stM, zFld, zFldD, cellIEnd, getD_, putD, ne1, ne2, ne3, ne4, ne5, ne6, and_true, true_and, and_self, Option.bind_some, Option.bind_none, Option.map_some, List.length_cons, List.length_nil, List.length_map, List.map_cons, List.map_nil, List.set_cons_zero, List.set_cons_succ, List.cons_append, List.nil_append, List.append_nil, List.replicate_succ, List.replicate_zero, Nat.reduceAdd, Nat.reduceSub, Nat.reduceLeDiff, Nat.reduceLT, Nat.lt_irrefl, Int.reduceMod, Int.reduceBEq, Int.reduceMul, Int.reduceSub, Int.cast_ofNat_Int, Int.reduceToNat, Int.toNat_natCast, if_true, if_false, ite_true, ite_false, Bool.false_eq_true, Bool.true_eq_false, reduceIte, reduceCtorEq, Bool.not_true, Bool.not_false, sizeLine_eq, Nat.zero_add, Int.reduceAdd, Int.reduceNeg, Int.zero_add, beq_self_eq_true, eq_self, dAdd_lst, dAdd_tup, eVar0, eVarS, eC, eNil, eCons, eOp, eUn, eCB, eTst, eTru, eNot, eAnd, eOr, eIfE, eAndV, eOrV, eNotV, eCh, eTup, eLst, eLstM, eCall, eRet, eSeq, eSNil, eIf, eSet, eAsg, ePar, ePar3, eExpr, eFor, eForN, eForC, eGNm, eGNl, eGCs, eGTp, eSq, eAsT, eAsL, eZp, eR1, eR2, oR1, oR2, eLc, eLcN, eLcC, eYes, eWN, eWC, eGx, eGxN, eGxC, eRun, eStart, oAdd, oSub, oNeg, oMul, oMod, oDiv, oLeT, oLeF, oGtT, oGtF, oGeT, oGeF, oLtT, oLtF, oEqT, oEqF, oNeT, oNeF, oEqB, oNeB, oIsN, oIsNotN, iN1, iN2, iN3, oIsNotTT, oTB, oIxT, oIxL, oIxR, at0, at1, at2, at3, at4, at5, at6, atLast, atm1, atm2, atm4, oLenT, oLenL, oIntI, oTupL, oTupT, oListT, oMaxL, oMaxR, rng0, rngS, zipN, zipN2, zipC, eIsi, tyI, tyT, tyN, tyB, kII, kIB, kIT, kIL, kTT, eSetIx, eSl, eNo, ePart, oSl1, eMt, eAppend, eRetF, cellEnd, setEnd, ixm, ix31, ix32, atm3, atm5, toPys_ints, rw3_py, rows_py, oNeR, oNeR0, rw3_below, rows_below, eTruR, eIE1, eIE2, oNeI, oNeL0, oNeL1, oNeL2, kbTF, kbFT, insLt, insEq, insGt, insNil, ssetN, ssetC, eSS, asQT, asQL, asIN, asIC]
theorem hear_new (s t : Int) (h : 0 < s) (d u : Bool) (hd : (u == d) = false) : F_Settler_hear K [.ref S.length, .int t, .bl u] (S ++ [stM K s d .non]) = some (.bl false, S ++ [stM K s d (.int t)]) := by
  have e : t - t < s := by omega
  cases d <;> cases u <;> first | (cases hd; done) | simp (disch := omega) only [F_Settler_hear, B_Settler_hear, stM, zFld, zFldD, cellIEnd, getD_, putD, ne1, ne2, ne3, ne4, ne5, ne6, and_true, true_and, and_self, Option.bind_some, Option.bind_none, Option.map_some, List.length_cons, List.length_nil, List.length_map, List.map_cons, List.map_nil, List.set_cons_zero, List.set_cons_succ, List.cons_append, List.nil_append, List.append_nil, List.replicate_succ, List.replicate_zero, Nat.reduceAdd, Nat.reduceSub, Nat.reduceLeDiff, Nat.reduceLT, Nat.lt_irrefl, Int.reduceMod, Int.reduceBEq, Int.reduceMul, Int.reduceSub, Int.cast_ofNat_Int, Int.reduceToNat, Int.toNat_natCast, if_true, if_false, ite_true, ite_false, Bool.false_eq_true, Bool.true_eq_false, reduceIte, reduceCtorEq, Bool.not_true, Bool.not_false, sizeLine_eq, Nat.zero_add, Int.reduceAdd, Int.reduceNeg, Int.zero_add, beq_self_eq_true, eq_self, dAdd_lst, dAdd_tup, eVar0, eVarS, eC, eNil, eCons, eOp, eUn, eCB, eTst, eTru, eNot, eAnd, eOr, eIfE, eAndV, eOrV, eNotV, eCh, eTup, eLst, eLstM, eCall, eRet, eSeq, eSNil, eIf, eSet, eAsg, ePar, ePar3, eExpr, eFor, eForN, eForC, eGNm, eGNl, eGCs, eGTp, eSq, eAsT, eAsL, eZp, eR1, eR2, oR1, oR2, eLc, eLcN, eLcC, eYes, eWN, eWC, eGx, eGxN, eGxC, eRun, eStart, oAdd, oSub, oNeg, oMul, oMod, oDiv, oLeT, oLeF, oGtT, oGtF, oGeT, oGeF, oLtT, oLtF, oEqT, oEqF, oNeT, oNeF, oEqB, oNeB, oIsN, oIsNotN, iN1, iN2, iN3, oIsNotTT, oTB, oIxT, oIxL, oIxR, at0, at1, at2, at3, at4, at5, at6, atLast, atm1, atm2, atm4, oLenT, oLenL, oIntI, oTupL, oTupT, oListT, oMaxL, oMaxR, rng0, rngS, zipN, zipN2, zipC, eIsi, tyI, tyT, tyN, tyB, kII, kIB, kIT, kIL, kTT, eSetIx, eSl, eNo, ePart, oSl1, eMt, eAppend, eRetF, cellEnd, setEnd, ixm, ix31, ix32, atm3, atm5, toPys_ints, rw3_py, rows_py, oNeR, oNeR0, rw3_below, rows_below, eTruR, eIE1, eIE2, oNeI, oNeL0, oNeL1, oNeL2, kbTF, kbFT, insLt, insEq, insGt, insNil, ssetN, ssetC, eSS, asQT, asQL, asIN, asIC]
theorem hear_wait (s t x : Int) (h : t - x < s) (d u : Bool) (hd : (u == d) = false) : F_Settler_hear K [.ref S.length, .int t, .bl u] (S ++ [stM K s d (.int x)]) = some (.bl false, S ++ [stM K s d (.int x)]) := by
  cases d <;> cases u <;> first | (cases hd; done) | simp (disch := omega) only [F_Settler_hear, B_Settler_hear, stM, zFld, zFldD, cellIEnd, getD_, putD, ne1, ne2, ne3, ne4, ne5, ne6, and_true, true_and, and_self, Option.bind_some, Option.bind_none, Option.map_some, List.length_cons, List.length_nil, List.length_map, List.map_cons, List.map_nil, List.set_cons_zero, List.set_cons_succ, List.cons_append, List.nil_append, List.append_nil, List.replicate_succ, List.replicate_zero, Nat.reduceAdd, Nat.reduceSub, Nat.reduceLeDiff, Nat.reduceLT, Nat.lt_irrefl, Int.reduceMod, Int.reduceBEq, Int.reduceMul, Int.reduceSub, Int.cast_ofNat_Int, Int.reduceToNat, Int.toNat_natCast, if_true, if_false, ite_true, ite_false, Bool.false_eq_true, Bool.true_eq_false, reduceIte, reduceCtorEq, Bool.not_true, Bool.not_false, sizeLine_eq, Nat.zero_add, Int.reduceAdd, Int.reduceNeg, Int.zero_add, beq_self_eq_true, eq_self, dAdd_lst, dAdd_tup, eVar0, eVarS, eC, eNil, eCons, eOp, eUn, eCB, eTst, eTru, eNot, eAnd, eOr, eIfE, eAndV, eOrV, eNotV, eCh, eTup, eLst, eLstM, eCall, eRet, eSeq, eSNil, eIf, eSet, eAsg, ePar, ePar3, eExpr, eFor, eForN, eForC, eGNm, eGNl, eGCs, eGTp, eSq, eAsT, eAsL, eZp, eR1, eR2, oR1, oR2, eLc, eLcN, eLcC, eYes, eWN, eWC, eGx, eGxN, eGxC, eRun, eStart, oAdd, oSub, oNeg, oMul, oMod, oDiv, oLeT, oLeF, oGtT, oGtF, oGeT, oGeF, oLtT, oLtF, oEqT, oEqF, oNeT, oNeF, oEqB, oNeB, oIsN, oIsNotN, iN1, iN2, iN3, oIsNotTT, oTB, oIxT, oIxL, oIxR, at0, at1, at2, at3, at4, at5, at6, atLast, atm1, atm2, atm4, oLenT, oLenL, oIntI, oTupL, oTupT, oListT, oMaxL, oMaxR, rng0, rngS, zipN, zipN2, zipC, eIsi, tyI, tyT, tyN, tyB, kII, kIB, kIT, kIL, kTT, eSetIx, eSl, eNo, ePart, oSl1, eMt, eAppend, eRetF, cellEnd, setEnd, ixm, ix31, ix32, atm3, atm5, toPys_ints, rw3_py, rows_py, oNeR, oNeR0, rw3_below, rows_below, eTruR, eIE1, eIE2, oNeI, oNeL0, oNeL1, oNeL2, kbTF, kbFT, insLt, insEq, insGt, insNil, ssetN, ssetC, eSS, asQT, asQL, asIN, asIC]
theorem hear_turn (s t x : Int) (h : ¬ t - x < s) (d u : Bool) (hd : (u == d) = false) : F_Settler_hear K [.ref S.length, .int t, .bl u] (S ++ [stM K s d (.int x)]) = some (.bl true, S ++ [stM K s u .non]) := by
  cases d <;> cases u <;> first | (cases hd; done) | simp (disch := omega) only [F_Settler_hear, B_Settler_hear, stM, zFld, zFldD, zFld2, cellIEnd, getD_, putD, ne1, ne2, ne3, ne4, ne5, ne6, and_true, true_and, and_self, Option.bind_some, Option.bind_none, Option.map_some, List.length_cons, List.length_nil, List.length_map, List.map_cons, List.map_nil, List.set_cons_zero, List.set_cons_succ, List.cons_append, List.nil_append, List.append_nil, List.replicate_succ, List.replicate_zero, Nat.reduceAdd, Nat.reduceSub, Nat.reduceLeDiff, Nat.reduceLT, Nat.lt_irrefl, Int.reduceMod, Int.reduceBEq, Int.reduceMul, Int.reduceSub, Int.cast_ofNat_Int, Int.reduceToNat, Int.toNat_natCast, if_true, if_false, ite_true, ite_false, Bool.false_eq_true, Bool.true_eq_false, reduceIte, reduceCtorEq, Bool.not_true, Bool.not_false, sizeLine_eq, Nat.zero_add, Int.reduceAdd, Int.reduceNeg, Int.zero_add, beq_self_eq_true, eq_self, dAdd_lst, dAdd_tup, eVar0, eVarS, eC, eNil, eCons, eOp, eUn, eCB, eTst, eTru, eNot, eAnd, eOr, eIfE, eAndV, eOrV, eNotV, eCh, eTup, eLst, eLstM, eCall, eRet, eSeq, eSNil, eIf, eSet, eAsg, ePar, ePar3, eExpr, eFor, eForN, eForC, eGNm, eGNl, eGCs, eGTp, eSq, eAsT, eAsL, eZp, eR1, eR2, oR1, oR2, eLc, eLcN, eLcC, eYes, eWN, eWC, eGx, eGxN, eGxC, eRun, eStart, oAdd, oSub, oNeg, oMul, oMod, oDiv, oLeT, oLeF, oGtT, oGtF, oGeT, oGeF, oLtT, oLtF, oEqT, oEqF, oNeT, oNeF, oEqB, oNeB, oIsN, oIsNotN, iN1, iN2, iN3, oIsNotTT, oTB, oIxT, oIxL, oIxR, at0, at1, at2, at3, at4, at5, at6, atLast, atm1, atm2, atm4, oLenT, oLenL, oIntI, oTupL, oTupT, oListT, oMaxL, oMaxR, rng0, rngS, zipN, zipN2, zipC, eIsi, tyI, tyT, tyN, tyB, kII, kIB, kIT, kIL, kTT, eSetIx, eSl, eNo, ePart, oSl1, eMt, eAppend, eRetF, cellEnd, setEnd, ixm, ix31, ix32, atm3, atm5, toPys_ints, rw3_py, rows_py, oNeR, oNeR0, rw3_below, rows_below, eTruR, eIE1, eIE2, oNeI, oNeL0, oNeL1, oNeL2, kbTF, kbFT, insLt, insEq, insGt, insNil, ssetN, ssetC, eSS, asQT, asQL, asIN, asIC]
end
end K51

namespace K51
open PySem PySem.Spec PyProof.Rows L2 DL
/-- the store with the box -/
def BX (cells : List Int) (v c : Int) : Store := [.lst (cells.map D.int), .lst [.ref 0, .int v, .int c]]
theorem cB1 {cells : List Int} {v c : Int} : cellL (BX cells v c) 1 = some [.ref 0, .int v, .int c] := rfl
theorem cB0 {cells : List Int} {v c : Int} : cellL (BX cells v c) 0 = some (cells.map D.int) := rfl
theorem bS1 {cells : List Int} {v c v' : Int} : (BX cells v c).set 1 (.lst ([.ref 0, .int v, .int c].set 1 (.int v'))) = BX cells v' c := rfl
theorem bS2 {cells : List Int} {v c c' : Int} : (BX cells v c).set 1 (.lst ([.ref 0, .int v, .int c].set 2 (.int c'))) = BX cells v c' := rfl
theorem lB0 {v c : Int} : one dLen (BX [] v c) [.ref 0] = some (.int 0) := rfl
theorem lBS {x : Int} {r : List Int} {v c : Int} : one dLen (BX (x :: r) v c) [.ref 0] = some (.int ((r.length : Int) + 1)) := by
  show some (D.int (((x :: r).map D.int).length : Int)) = _
  rw [List.length_map, List.length_cons]
  rfl
theorem pB {x : Int} {r : List Int} {v c : Int} : mPopAt (BX (x :: r) v c) 0 [.int 0] = some (.int x, BX r v c) := by
  unfold mPopAt
  dsimp only
  rw [cB0, Option.bind_some, if_pos (by omega)]
  have e : seqIndex? 0 ((x :: r).map D.int).length = some 0 := by
    unfold seqIndex?
    rw [List.length_map, List.length_cons]
    simp
  rw [e]
  rfl
section
variable {a o i : FE} {r : FA} {sl : Slots} {S S1 S2 S3 S4 : Store} {d : D} {xs l : List D} {n j m : Nat} {k : Int}
theorem jPop (h1 : o sl S = some (.ref n, S1)) (h3 : cellL S1 n = some l) (h2 : r sl S1 = some (xs, S2)) (h4 : mPopAt S2 n xs = some (d, S3)) : fMt mPopAt o r sl S = some (d, S3) := by
  rw [eMt, h1, Option.bind_some]
  show (cellL S1 n).bind _ = _
  rw [h3, Option.bind_some, h2, Option.bind_some, h4]
theorem jSetC' (h1 : a sl S = some (d, S1)) (h2 : o sl S1 = some (.ref n, S2)) (h3 : i sl S2 = some (.int k, S3)) (h4 : cellL S3 n = some l) (h5 : l.length = m) (h6 : ixN m k = some j) (h7 : S3.set n (.lst (l.set j d)) = S4) : sSetIx a o i sl S = some (.nx, sl, S4) := by
  rw [eSetIx, h1, Option.bind_some, h2, Option.bind_some, h3, Option.bind_some]
  show (cellL S3 n).bind _ = _
  rw [h4, Option.bind_some, h5, h6, Option.bind_some, h7]
theorem jInt {x : Int} : one dInt S [.int x] = some (.int x) := rfl
end
theorem ld (cells : List Int) (v c : Int) (hc : 0 ≤ c ∧ c < 4294967296) : ∃ r cells' c', F__law_load [.ref 1] (BX cells v c) = some (.int r, BX cells' v c') ∧ 0 ≤ r ∧ 0 ≤ c' ∧ c' < 4294967296 := by
  cases cells with
  | nil =>
    refine ⟨_, _, _, run__law_load rfl (by repeat' (first
    | (with_reducible exact jSet0)
    | (with_reducible apply jSetS)
    | ((with_reducible apply jVar); rfl)
    | (with_reducible apply jOp)
    | (with_reducible exact eC)
    | (with_reducible apply jCons)
    | (with_reducible exact jNil)
    | (with_reducible apply jSeq)
    | (with_reducible apply jKnx)
    | (with_reducible exact jSt0)
    | (with_reducible apply jStN)
    | (with_reducible apply jStC)
    | ((with_reducible refine jIteT ?hp ?_); case hp => rfl)
    | ((with_reducible refine jIteF ?hp ?_); case hp => exact Bool.false_ne_true)
    | ((with_reducible refine jIteF ?hp ?_); case hp => decide)
    | (with_reducible exact jApN)
    | (with_reducible apply jAppend)
    | (with_reducible apply jApC)
    | (with_reducible exact jGNl)
    | (with_reducible apply jGNm)
    | (with_reducible apply jIxT)
    | (with_reducible apply jIxL)
    | (with_reducible apply jIxR)
    | (with_reducible exact oAdd)
    | (with_reducible exact oTB)
    | (with_reducible apply jTst)
    | (with_reducible apply jIf)
    | (with_reducible apply jIfE)
    | (with_reducible apply jAnd)
    | (with_reducible apply jAndV)
    | (with_reducible apply jCall)
    | (with_reducible apply jSet)
    | (with_reducible exact cellEnd)
    | (with_reducible exact jForN)
    | (with_reducible apply jFor)
    | (with_reducible apply jForC)
    | (with_reducible apply jCB)
    | (with_reducible apply jFnx)
    | (with_reducible exact jSNil)
    | (with_reducible apply jGCs)
    | (with_reducible exact jRN)
    | (with_reducible apply jR1)
    | (with_reducible apply jR2)
    | (with_reducible apply jRS)
    | (with_reducible exact jRetKL)
    | (with_reducible apply jRet)
    | (with_reducible apply jRetF)
    | (with_reducible apply jRetKR)
    | (with_reducible exact oEqB)
    | ((with_reducible refine oEqT ?_); omega)
    | ((with_reducible refine oEqF ?_); omega)
    | (with_reducible exact jTruR0)
    | (with_reducible exact jTruR1)
    | (with_reducible apply jTru)
    | (with_reducible apply jLst)
    | (with_reducible apply jLstM)
    | (with_reducible apply jPar)
    | (with_reducible apply jPar3)
    | (with_reducible apply jPart)
    | (with_reducible apply jIsi)
    | ((with_reducible show atI _ _ = _); rfl)
    | ((with_reducible show Nat.ble _ _ = true); rfl)
    | ((with_reducible refine oMod ?_); omega)
    | (with_reducible apply jAddR)
    | (with_reducible apply jAddL)
    | (with_reducible apply jAddT)
    | ((with_reducible refine oLeT ?_); omega)
    | ((with_reducible refine oLeF ?_); omega)
    | (with_reducible exact jYes)
    | (with_reducible exact jAsN)
    | (with_reducible apply jAsg)
    | (with_reducible apply jAsC)
    | (with_reducible apply jSetLast)
    | (with_reducible apply jSetC)
    | (with_reducible exact jWN)
    | (with_reducible apply jWC)
    | (with_reducible exact jNo)
    | (with_reducible apply jNot)
    | (with_reducible apply jNotV)
    | (with_reducible exact setEnd)
    | (with_reducible exact tyI)
    | (with_reducible exact oIsN)
    | (with_reducible exact oIsNotN)
    | (with_reducible exact oIsNotTT)
    | ((with_reducible refine oMul ?_); omega)
    | ((with_reducible apply jInsGt); omega)
    | (with_reducible exact neT2)
    | (with_reducible exact oNeg)
    | (with_reducible exact oNeB)
    | (with_reducible exact oNeL0)
    | (with_reducible exact oNeL1)
    | (with_reducible exact oNeL2)
    | (with_reducible exact oNeR0)
    | ((with_reducible refine oNeT ?_); omega)
    | ((with_reducible refine oNeF ?_); omega)
    | ((with_reducible refine jNeRT ?_); rfl)
    | (with_reducible apply jSq)
    | (with_reducible apply jSqF)
    | (with_reducible apply jUn)
    | (with_reducible exact jMpN)
    | (with_reducible apply jMpC)
    | (with_reducible apply jGTp)
    | ((with_reducible refine oLtT ?_); omega)
    | ((with_reducible refine oLtF ?_); omega)
    | (with_reducible apply jTup)
    | (with_reducible exact oIntI)
    | (with_reducible apply jOr)
    | (with_reducible apply jOrV)
    | (with_reducible exact jLcN)
    | (with_reducible exact jLc2N)
    | (with_reducible apply jLc)
    | (with_reducible apply jLcC)
    | (with_reducible apply jLcK)
    | (with_reducible apply jLc2)
    | (with_reducible apply jLc2C)
    | (with_reducible exact atLast)
    | (with_reducible apply jCh)
    | (with_reducible apply jChK)
    | (with_reducible apply jExpr)
    | (with_reducible exact oSub)
    | (with_reducible exact insNil)
    | ((with_reducible refine insLt ?_); omega)
    | ((with_reducible refine insEq ?_); omega)
    | (with_reducible exact eAsT)
    | (with_reducible exact eAsL)
    | (with_reducible exact kII)
    | (with_reducible exact kIB)
    | (with_reducible exact jGxN)
    | (with_reducible exact jGxM)
    | (with_reducible apply jGx)
    | (with_reducible apply jGxC)
    | (with_reducible apply jGxK)
    | (with_reducible exact oListT)
    | (with_reducible apply jLenT)
    | (with_reducible apply jLenL)
    | (with_reducible apply jLenR)
    | ((with_reducible refine oGtT ?_); omega)
    | ((with_reducible refine oGtF ?_); omega)
    | (with_reducible exact tyT)
    | (with_reducible exact kTT)
    | (with_reducible exact jKret)
    | (with_reducible exact jZN)
    | (with_reducible exact jZN2)
    | (with_reducible apply jZp)
    | (with_reducible apply jZC)
    | (with_reducible exact ssetN)
    | (with_reducible apply jSS)
    | ((with_reducible refine oGeT ?_); omega)
    | ((with_reducible refine oGeF ?_); omega)
    | (with_reducible exact asQT)
    | (with_reducible exact asQL)
    | (with_reducible apply jSlT)
    | ((with_reducible refine oDiv ?_); omega)
    | (with_reducible exact jFret)
    | (with_reducible exact iN1)
    | (with_reducible exact iN2)
    | (with_reducible exact iN3)
    | (with_reducible exact oTupL)
    | (with_reducible exact oTupT)
    | (with_reducible exact tyN)
    | (with_reducible exact tyB)
    | (with_reducible exact kIT)
    | (with_reducible exact kIL)
    | ((with_reducible refine oMaxL ?_); omega)
    | ((with_reducible refine oMaxR ?_); omega)
    | (show Int.toNat _ = _; (try simp only [List.length_cons, List.length_nil, Nat.zero_add, Nat.reduceAdd, Int.cast_ofNat_Int, Int.reduceToNat, Int.reduceSub, Int.toNat_natCast]); (try rfl); done)
    | (show List.length _ = _; (try simp only [List.length_cons, List.length_nil, List.length_append, List.cons_append, List.nil_append, Nat.zero_add, Nat.reduceAdd]); (try rfl); done)
    | (show Nat.ble _ _ = true; rfl)
    | (show atI _ _ = _; rfl)
    | (show one dAll _ _ = _; rfl)
    | (with_reducible rfl)
    | omega
    | with_reducible assumption)) (by repeat' (first
    | (with_reducible exact cB1)
    | (with_reducible exact cB0)
    | (with_reducible exact bS1)
    | (with_reducible exact bS2)
    | (with_reducible exact lB0)
    | (with_reducible exact ix31)
    | (with_reducible exact ix32)
    | (with_reducible apply jSetC')
    | (with_reducible exact jSet0)
    | (with_reducible apply jSetS)
    | ((with_reducible apply jVar); rfl)
    | (with_reducible apply jOp)
    | (with_reducible exact eC)
    | (with_reducible apply jCons)
    | (with_reducible exact jNil)
    | (with_reducible apply jSeq)
    | (with_reducible apply jKnx)
    | (with_reducible exact jSt0)
    | (with_reducible apply jStN)
    | (with_reducible apply jStC)
    | ((with_reducible refine jIteT ?hp ?_); case hp => rfl)
    | ((with_reducible refine jIteF ?hp ?_); case hp => exact Bool.false_ne_true)
    | ((with_reducible refine jIteF ?hp ?_); case hp => decide)
    | (with_reducible exact jApN)
    | (with_reducible apply jAppend)
    | (with_reducible apply jApC)
    | (with_reducible exact jGNl)
    | (with_reducible apply jGNm)
    | (with_reducible apply jIxT)
    | (with_reducible apply jIxL)
    | (with_reducible apply jIxR)
    | (with_reducible exact oAdd)
    | (with_reducible exact oTB)
    | (with_reducible apply jTst)
    | (with_reducible apply jIf)
    | (with_reducible apply jIfE)
    | (with_reducible apply jAnd)
    | (with_reducible apply jAndV)
    | (with_reducible apply jCall)
    | (with_reducible apply jSet)
    | (with_reducible exact cellEnd)
    | (with_reducible exact jForN)
    | (with_reducible apply jFor)
    | (with_reducible apply jForC)
    | (with_reducible apply jCB)
    | (with_reducible apply jFnx)
    | (with_reducible exact jSNil)
    | (with_reducible apply jGCs)
    | (with_reducible exact jRN)
    | (with_reducible apply jR1)
    | (with_reducible apply jR2)
    | (with_reducible apply jRS)
    | (with_reducible exact jRetKL)
    | (with_reducible apply jRet)
    | (with_reducible apply jRetF)
    | (with_reducible apply jRetKR)
    | (with_reducible exact oEqB)
    | ((with_reducible refine oEqT ?_); omega)
    | ((with_reducible refine oEqF ?_); omega)
    | (with_reducible exact jTruR0)
    | (with_reducible exact jTruR1)
    | (with_reducible apply jTru)
    | (with_reducible apply jLst)
    | (with_reducible apply jLstM)
    | (with_reducible apply jPar)
    | (with_reducible apply jPar3)
    | (with_reducible apply jPart)
    | (with_reducible apply jIsi)
    | ((with_reducible show atI _ _ = _); rfl)
    | ((with_reducible show Nat.ble _ _ = true); rfl)
    | ((with_reducible refine oMod ?_); omega)
    | (with_reducible apply jAddR)
    | (with_reducible apply jAddL)
    | (with_reducible apply jAddT)
    | ((with_reducible refine oLeT ?_); omega)
    | ((with_reducible refine oLeF ?_); omega)
    | (with_reducible exact jYes)
    | (with_reducible exact jAsN)
    | (with_reducible apply jAsg)
    | (with_reducible apply jAsC)
    | (with_reducible apply jSetLast)
    | (with_reducible apply jSetC)
    | (with_reducible exact jWN)
    | (with_reducible apply jWC)
    | (with_reducible exact jNo)
    | (with_reducible apply jNot)
    | (with_reducible apply jNotV)
    | (with_reducible exact setEnd)
    | (with_reducible exact tyI)
    | (with_reducible exact oIsN)
    | (with_reducible exact oIsNotN)
    | (with_reducible exact oIsNotTT)
    | ((with_reducible refine oMul ?_); omega)
    | ((with_reducible apply jInsGt); omega)
    | (with_reducible exact neT2)
    | (with_reducible exact oNeg)
    | (with_reducible exact oNeB)
    | (with_reducible exact oNeL0)
    | (with_reducible exact oNeL1)
    | (with_reducible exact oNeL2)
    | (with_reducible exact oNeR0)
    | ((with_reducible refine oNeT ?_); omega)
    | ((with_reducible refine oNeF ?_); omega)
    | ((with_reducible refine jNeRT ?_); rfl)
    | (with_reducible apply jSq)
    | (with_reducible apply jSqF)
    | (with_reducible apply jUn)
    | (with_reducible exact jMpN)
    | (with_reducible apply jMpC)
    | (with_reducible apply jGTp)
    | ((with_reducible refine oLtT ?_); omega)
    | ((with_reducible refine oLtF ?_); omega)
    | (with_reducible apply jTup)
    | (with_reducible exact oIntI)
    | (with_reducible apply jOr)
    | (with_reducible apply jOrV)
    | (with_reducible exact jLcN)
    | (with_reducible exact jLc2N)
    | (with_reducible apply jLc)
    | (with_reducible apply jLcC)
    | (with_reducible apply jLcK)
    | (with_reducible apply jLc2)
    | (with_reducible apply jLc2C)
    | (with_reducible exact atLast)
    | (with_reducible apply jCh)
    | (with_reducible apply jChK)
    | (with_reducible apply jExpr)
    | (with_reducible exact oSub)
    | (with_reducible exact insNil)
    | ((with_reducible refine insLt ?_); omega)
    | ((with_reducible refine insEq ?_); omega)
    | (with_reducible exact eAsT)
    | (with_reducible exact eAsL)
    | (with_reducible exact kII)
    | (with_reducible exact kIB)
    | (with_reducible exact jGxN)
    | (with_reducible exact jGxM)
    | (with_reducible apply jGx)
    | (with_reducible apply jGxC)
    | (with_reducible apply jGxK)
    | (with_reducible exact oListT)
    | (with_reducible apply jLenT)
    | (with_reducible apply jLenL)
    | (with_reducible apply jLenR)
    | ((with_reducible refine oGtT ?_); omega)
    | ((with_reducible refine oGtF ?_); omega)
    | (with_reducible exact tyT)
    | (with_reducible exact kTT)
    | (with_reducible exact jKret)
    | (with_reducible exact jZN)
    | (with_reducible exact jZN2)
    | (with_reducible apply jZp)
    | (with_reducible apply jZC)
    | (with_reducible exact ssetN)
    | (with_reducible apply jSS)
    | ((with_reducible refine oGeT ?_); omega)
    | ((with_reducible refine oGeF ?_); omega)
    | (with_reducible exact asQT)
    | (with_reducible exact asQL)
    | (with_reducible apply jSlT)
    | ((with_reducible refine oDiv ?_); omega)
    | (with_reducible exact jFret)
    | (with_reducible exact iN1)
    | (with_reducible exact iN2)
    | (with_reducible exact iN3)
    | (with_reducible exact oTupL)
    | (with_reducible exact oTupT)
    | (with_reducible exact tyN)
    | (with_reducible exact tyB)
    | (with_reducible exact kIT)
    | (with_reducible exact kIL)
    | ((with_reducible refine oMaxL ?_); omega)
    | ((with_reducible refine oMaxR ?_); omega)
    | (show Int.toNat _ = _; (try simp only [List.length_cons, List.length_nil, Nat.zero_add, Nat.reduceAdd, Int.cast_ofNat_Int, Int.reduceToNat, Int.reduceSub, Int.toNat_natCast]); (try rfl); done)
    | (show List.length _ = _; (try simp only [List.length_cons, List.length_nil, List.length_append, List.cons_append, List.nil_append, Nat.zero_add, Nat.reduceAdd]); (try rfl); done)
    | (show Nat.ble _ _ = true; rfl)
    | (show atI _ _ = _; rfl)
    | (show one dAll _ _ = _; rfl)
    | (with_reducible rfl)
    | omega
    | with_reducible assumption)), ?_, ?_, ?_⟩ <;> omega
  | cons x r =>
    by_cases hx : 0 ≤ x
    · by_cases hz : 1000000000000000000 ≤ 2 * x
      · refine ⟨_, _, _, run__law_load rfl (by repeat' (first
    | (with_reducible exact jSet0)
    | (with_reducible apply jSetS)
    | ((with_reducible apply jVar); rfl)
    | (with_reducible apply jOp)
    | (with_reducible exact eC)
    | (with_reducible apply jCons)
    | (with_reducible exact jNil)
    | (with_reducible apply jSeq)
    | (with_reducible apply jKnx)
    | (with_reducible exact jSt0)
    | (with_reducible apply jStN)
    | (with_reducible apply jStC)
    | ((with_reducible refine jIteT ?hp ?_); case hp => rfl)
    | ((with_reducible refine jIteF ?hp ?_); case hp => exact Bool.false_ne_true)
    | ((with_reducible refine jIteF ?hp ?_); case hp => decide)
    | (with_reducible exact jApN)
    | (with_reducible apply jAppend)
    | (with_reducible apply jApC)
    | (with_reducible exact jGNl)
    | (with_reducible apply jGNm)
    | (with_reducible apply jIxT)
    | (with_reducible apply jIxL)
    | (with_reducible apply jIxR)
    | (with_reducible exact oAdd)
    | (with_reducible exact oTB)
    | (with_reducible apply jTst)
    | (with_reducible apply jIf)
    | (with_reducible apply jIfE)
    | (with_reducible apply jAnd)
    | (with_reducible apply jAndV)
    | (with_reducible apply jCall)
    | (with_reducible apply jSet)
    | (with_reducible exact cellEnd)
    | (with_reducible exact jForN)
    | (with_reducible apply jFor)
    | (with_reducible apply jForC)
    | (with_reducible apply jCB)
    | (with_reducible apply jFnx)
    | (with_reducible exact jSNil)
    | (with_reducible apply jGCs)
    | (with_reducible exact jRN)
    | (with_reducible apply jR1)
    | (with_reducible apply jR2)
    | (with_reducible apply jRS)
    | (with_reducible exact jRetKL)
    | (with_reducible apply jRet)
    | (with_reducible apply jRetF)
    | (with_reducible apply jRetKR)
    | (with_reducible exact oEqB)
    | ((with_reducible refine oEqT ?_); omega)
    | ((with_reducible refine oEqF ?_); omega)
    | (with_reducible exact jTruR0)
    | (with_reducible exact jTruR1)
    | (with_reducible apply jTru)
    | (with_reducible apply jLst)
    | (with_reducible apply jLstM)
    | (with_reducible apply jPar)
    | (with_reducible apply jPar3)
    | (with_reducible apply jPart)
    | (with_reducible apply jIsi)
    | ((with_reducible show atI _ _ = _); rfl)
    | ((with_reducible show Nat.ble _ _ = true); rfl)
    | ((with_reducible refine oMod ?_); omega)
    | (with_reducible apply jAddR)
    | (with_reducible apply jAddL)
    | (with_reducible apply jAddT)
    | ((with_reducible refine oLeT ?_); omega)
    | ((with_reducible refine oLeF ?_); omega)
    | (with_reducible exact jYes)
    | (with_reducible exact jAsN)
    | (with_reducible apply jAsg)
    | (with_reducible apply jAsC)
    | (with_reducible apply jSetLast)
    | (with_reducible apply jSetC)
    | (with_reducible exact jWN)
    | (with_reducible apply jWC)
    | (with_reducible exact jNo)
    | (with_reducible apply jNot)
    | (with_reducible apply jNotV)
    | (with_reducible exact setEnd)
    | (with_reducible exact tyI)
    | (with_reducible exact oIsN)
    | (with_reducible exact oIsNotN)
    | (with_reducible exact oIsNotTT)
    | ((with_reducible refine oMul ?_); omega)
    | ((with_reducible apply jInsGt); omega)
    | (with_reducible exact neT2)
    | (with_reducible exact oNeg)
    | (with_reducible exact oNeB)
    | (with_reducible exact oNeL0)
    | (with_reducible exact oNeL1)
    | (with_reducible exact oNeL2)
    | (with_reducible exact oNeR0)
    | ((with_reducible refine oNeT ?_); omega)
    | ((with_reducible refine oNeF ?_); omega)
    | ((with_reducible refine jNeRT ?_); rfl)
    | (with_reducible apply jSq)
    | (with_reducible apply jSqF)
    | (with_reducible apply jUn)
    | (with_reducible exact jMpN)
    | (with_reducible apply jMpC)
    | (with_reducible apply jGTp)
    | ((with_reducible refine oLtT ?_); omega)
    | ((with_reducible refine oLtF ?_); omega)
    | (with_reducible apply jTup)
    | (with_reducible exact oIntI)
    | (with_reducible apply jOr)
    | (with_reducible apply jOrV)
    | (with_reducible exact jLcN)
    | (with_reducible exact jLc2N)
    | (with_reducible apply jLc)
    | (with_reducible apply jLcC)
    | (with_reducible apply jLcK)
    | (with_reducible apply jLc2)
    | (with_reducible apply jLc2C)
    | (with_reducible exact atLast)
    | (with_reducible apply jCh)
    | (with_reducible apply jChK)
    | (with_reducible apply jExpr)
    | (with_reducible exact oSub)
    | (with_reducible exact insNil)
    | ((with_reducible refine insLt ?_); omega)
    | ((with_reducible refine insEq ?_); omega)
    | (with_reducible exact eAsT)
    | (with_reducible exact eAsL)
    | (with_reducible exact kII)
    | (with_reducible exact kIB)
    | (with_reducible exact jGxN)
    | (with_reducible exact jGxM)
    | (with_reducible apply jGx)
    | (with_reducible apply jGxC)
    | (with_reducible apply jGxK)
    | (with_reducible exact oListT)
    | (with_reducible apply jLenT)
    | (with_reducible apply jLenL)
    | (with_reducible apply jLenR)
    | ((with_reducible refine oGtT ?_); omega)
    | ((with_reducible refine oGtF ?_); omega)
    | (with_reducible exact tyT)
    | (with_reducible exact kTT)
    | (with_reducible exact jKret)
    | (with_reducible exact jZN)
    | (with_reducible exact jZN2)
    | (with_reducible apply jZp)
    | (with_reducible apply jZC)
    | (with_reducible exact ssetN)
    | (with_reducible apply jSS)
    | ((with_reducible refine oGeT ?_); omega)
    | ((with_reducible refine oGeF ?_); omega)
    | (with_reducible exact asQT)
    | (with_reducible exact asQL)
    | (with_reducible apply jSlT)
    | ((with_reducible refine oDiv ?_); omega)
    | (with_reducible exact jFret)
    | (with_reducible exact iN1)
    | (with_reducible exact iN2)
    | (with_reducible exact iN3)
    | (with_reducible exact oTupL)
    | (with_reducible exact oTupT)
    | (with_reducible exact tyN)
    | (with_reducible exact tyB)
    | (with_reducible exact kIT)
    | (with_reducible exact kIL)
    | ((with_reducible refine oMaxL ?_); omega)
    | ((with_reducible refine oMaxR ?_); omega)
    | (show Int.toNat _ = _; (try simp only [List.length_cons, List.length_nil, Nat.zero_add, Nat.reduceAdd, Int.cast_ofNat_Int, Int.reduceToNat, Int.reduceSub, Int.toNat_natCast]); (try rfl); done)
    | (show List.length _ = _; (try simp only [List.length_cons, List.length_nil, List.length_append, List.cons_append, List.nil_append, Nat.zero_add, Nat.reduceAdd]); (try rfl); done)
    | (show Nat.ble _ _ = true; rfl)
    | (show atI _ _ = _; rfl)
    | (show one dAll _ _ = _; rfl)
    | (with_reducible rfl)
    | omega
    | with_reducible assumption)) (by repeat' (first
    | (with_reducible exact cB1)
    | (with_reducible exact cB0)
    | (with_reducible exact bS1)
    | (with_reducible exact bS2)
    | (with_reducible exact lBS)
    | (with_reducible exact pB)
    | (with_reducible exact ix31)
    | (with_reducible exact ix32)
    | (with_reducible apply jSetC')
    | (with_reducible apply jPop)
    | (with_reducible exact jSet0)
    | (with_reducible apply jSetS)
    | ((with_reducible apply jVar); rfl)
    | (with_reducible apply jOp)
    | (with_reducible exact eC)
    | (with_reducible apply jCons)
    | (with_reducible exact jNil)
    | (with_reducible apply jSeq)
    | (with_reducible apply jKnx)
    | (with_reducible exact jSt0)
    | (with_reducible apply jStN)
    | (with_reducible apply jStC)
    | ((with_reducible refine jIteT ?hp ?_); case hp => rfl)
    | ((with_reducible refine jIteF ?hp ?_); case hp => exact Bool.false_ne_true)
    | ((with_reducible refine jIteF ?hp ?_); case hp => decide)
    | (with_reducible exact jApN)
    | (with_reducible apply jAppend)
    | (with_reducible apply jApC)
    | (with_reducible exact jGNl)
    | (with_reducible apply jGNm)
    | (with_reducible apply jIxT)
    | (with_reducible apply jIxL)
    | (with_reducible apply jIxR)
    | (with_reducible exact oAdd)
    | (with_reducible exact oTB)
    | (with_reducible apply jTst)
    | (with_reducible apply jIf)
    | (with_reducible apply jIfE)
    | (with_reducible apply jAnd)
    | (with_reducible apply jAndV)
    | (with_reducible apply jCall)
    | (with_reducible apply jSet)
    | (with_reducible exact cellEnd)
    | (with_reducible exact jForN)
    | (with_reducible apply jFor)
    | (with_reducible apply jForC)
    | (with_reducible apply jCB)
    | (with_reducible apply jFnx)
    | (with_reducible exact jSNil)
    | (with_reducible apply jGCs)
    | (with_reducible exact jRN)
    | (with_reducible apply jR1)
    | (with_reducible apply jR2)
    | (with_reducible apply jRS)
    | (with_reducible exact jRetKL)
    | (with_reducible apply jRet)
    | (with_reducible apply jRetF)
    | (with_reducible apply jRetKR)
    | (with_reducible exact oEqB)
    | ((with_reducible refine oEqT ?_); omega)
    | ((with_reducible refine oEqF ?_); omega)
    | (with_reducible exact jTruR0)
    | (with_reducible exact jTruR1)
    | (with_reducible apply jTru)
    | (with_reducible apply jLst)
    | (with_reducible apply jLstM)
    | (with_reducible apply jPar)
    | (with_reducible apply jPar3)
    | (with_reducible apply jPart)
    | (with_reducible apply jIsi)
    | ((with_reducible show atI _ _ = _); rfl)
    | ((with_reducible show Nat.ble _ _ = true); rfl)
    | ((with_reducible refine oMod ?_); omega)
    | (with_reducible apply jAddR)
    | (with_reducible apply jAddL)
    | (with_reducible apply jAddT)
    | ((with_reducible refine oLeT ?_); omega)
    | ((with_reducible refine oLeF ?_); omega)
    | (with_reducible exact jYes)
    | (with_reducible exact jAsN)
    | (with_reducible apply jAsg)
    | (with_reducible apply jAsC)
    | (with_reducible apply jSetLast)
    | (with_reducible apply jSetC)
    | (with_reducible exact jWN)
    | (with_reducible apply jWC)
    | (with_reducible exact jNo)
    | (with_reducible apply jNot)
    | (with_reducible apply jNotV)
    | (with_reducible exact setEnd)
    | (with_reducible exact tyI)
    | (with_reducible exact oIsN)
    | (with_reducible exact oIsNotN)
    | (with_reducible exact oIsNotTT)
    | ((with_reducible refine oMul ?_); omega)
    | ((with_reducible apply jInsGt); omega)
    | (with_reducible exact neT2)
    | (with_reducible exact oNeg)
    | (with_reducible exact oNeB)
    | (with_reducible exact oNeL0)
    | (with_reducible exact oNeL1)
    | (with_reducible exact oNeL2)
    | (with_reducible exact oNeR0)
    | ((with_reducible refine oNeT ?_); omega)
    | ((with_reducible refine oNeF ?_); omega)
    | ((with_reducible refine jNeRT ?_); rfl)
    | (with_reducible apply jSq)
    | (with_reducible apply jSqF)
    | (with_reducible apply jUn)
    | (with_reducible exact jMpN)
    | (with_reducible apply jMpC)
    | (with_reducible apply jGTp)
    | ((with_reducible refine oLtT ?_); omega)
    | ((with_reducible refine oLtF ?_); omega)
    | (with_reducible apply jTup)
    | (with_reducible exact oIntI)
    | (with_reducible apply jOr)
    | (with_reducible apply jOrV)
    | (with_reducible exact jLcN)
    | (with_reducible exact jLc2N)
    | (with_reducible apply jLc)
    | (with_reducible apply jLcC)
    | (with_reducible apply jLcK)
    | (with_reducible apply jLc2)
    | (with_reducible apply jLc2C)
    | (with_reducible exact atLast)
    | (with_reducible apply jCh)
    | (with_reducible apply jChK)
    | (with_reducible apply jExpr)
    | (with_reducible exact oSub)
    | (with_reducible exact insNil)
    | ((with_reducible refine insLt ?_); omega)
    | ((with_reducible refine insEq ?_); omega)
    | (with_reducible exact eAsT)
    | (with_reducible exact eAsL)
    | (with_reducible exact kII)
    | (with_reducible exact kIB)
    | (with_reducible exact jGxN)
    | (with_reducible exact jGxM)
    | (with_reducible apply jGx)
    | (with_reducible apply jGxC)
    | (with_reducible apply jGxK)
    | (with_reducible exact oListT)
    | (with_reducible apply jLenT)
    | (with_reducible apply jLenL)
    | (with_reducible apply jLenR)
    | ((with_reducible refine oGtT ?_); omega)
    | ((with_reducible refine oGtF ?_); omega)
    | (with_reducible exact tyT)
    | (with_reducible exact kTT)
    | (with_reducible exact jKret)
    | (with_reducible exact jZN)
    | (with_reducible exact jZN2)
    | (with_reducible apply jZp)
    | (with_reducible apply jZC)
    | (with_reducible exact ssetN)
    | (with_reducible apply jSS)
    | ((with_reducible refine oGeT ?_); omega)
    | ((with_reducible refine oGeF ?_); omega)
    | (with_reducible exact asQT)
    | (with_reducible exact asQL)
    | (with_reducible apply jSlT)
    | ((with_reducible refine oDiv ?_); omega)
    | (with_reducible exact jFret)
    | (with_reducible exact iN1)
    | (with_reducible exact iN2)
    | (with_reducible exact iN3)
    | (with_reducible exact oTupL)
    | (with_reducible exact oTupT)
    | (with_reducible exact tyN)
    | (with_reducible exact tyB)
    | (with_reducible exact kIT)
    | (with_reducible exact kIL)
    | ((with_reducible refine oMaxL ?_); omega)
    | ((with_reducible refine oMaxR ?_); omega)
    | (show Int.toNat _ = _; (try simp only [List.length_cons, List.length_nil, Nat.zero_add, Nat.reduceAdd, Int.cast_ofNat_Int, Int.reduceToNat, Int.reduceSub, Int.toNat_natCast]); (try rfl); done)
    | (show List.length _ = _; (try simp only [List.length_cons, List.length_nil, List.length_append, List.cons_append, List.nil_append, Nat.zero_add, Nat.reduceAdd]); (try rfl); done)
    | (show Nat.ble _ _ = true; rfl)
    | (show atI _ _ = _; rfl)
    | (show one dAll _ _ = _; rfl)
    | (with_reducible rfl)
    | omega
    | with_reducible assumption)), ?_, ?_, ?_⟩ <;> omega
      · refine ⟨_, _, _, run__law_load rfl (by repeat' (first
    | (with_reducible exact jSet0)
    | (with_reducible apply jSetS)
    | ((with_reducible apply jVar); rfl)
    | (with_reducible apply jOp)
    | (with_reducible exact eC)
    | (with_reducible apply jCons)
    | (with_reducible exact jNil)
    | (with_reducible apply jSeq)
    | (with_reducible apply jKnx)
    | (with_reducible exact jSt0)
    | (with_reducible apply jStN)
    | (with_reducible apply jStC)
    | ((with_reducible refine jIteT ?hp ?_); case hp => rfl)
    | ((with_reducible refine jIteF ?hp ?_); case hp => exact Bool.false_ne_true)
    | ((with_reducible refine jIteF ?hp ?_); case hp => decide)
    | (with_reducible exact jApN)
    | (with_reducible apply jAppend)
    | (with_reducible apply jApC)
    | (with_reducible exact jGNl)
    | (with_reducible apply jGNm)
    | (with_reducible apply jIxT)
    | (with_reducible apply jIxL)
    | (with_reducible apply jIxR)
    | (with_reducible exact oAdd)
    | (with_reducible exact oTB)
    | (with_reducible apply jTst)
    | (with_reducible apply jIf)
    | (with_reducible apply jIfE)
    | (with_reducible apply jAnd)
    | (with_reducible apply jAndV)
    | (with_reducible apply jCall)
    | (with_reducible apply jSet)
    | (with_reducible exact cellEnd)
    | (with_reducible exact jForN)
    | (with_reducible apply jFor)
    | (with_reducible apply jForC)
    | (with_reducible apply jCB)
    | (with_reducible apply jFnx)
    | (with_reducible exact jSNil)
    | (with_reducible apply jGCs)
    | (with_reducible exact jRN)
    | (with_reducible apply jR1)
    | (with_reducible apply jR2)
    | (with_reducible apply jRS)
    | (with_reducible exact jRetKL)
    | (with_reducible apply jRet)
    | (with_reducible apply jRetF)
    | (with_reducible apply jRetKR)
    | (with_reducible exact oEqB)
    | ((with_reducible refine oEqT ?_); omega)
    | ((with_reducible refine oEqF ?_); omega)
    | (with_reducible exact jTruR0)
    | (with_reducible exact jTruR1)
    | (with_reducible apply jTru)
    | (with_reducible apply jLst)
    | (with_reducible apply jLstM)
    | (with_reducible apply jPar)
    | (with_reducible apply jPar3)
    | (with_reducible apply jPart)
    | (with_reducible apply jIsi)
    | ((with_reducible show atI _ _ = _); rfl)
    | ((with_reducible show Nat.ble _ _ = true); rfl)
    | ((with_reducible refine oMod ?_); omega)
    | (with_reducible apply jAddR)
    | (with_reducible apply jAddL)
    | (with_reducible apply jAddT)
    | ((with_reducible refine oLeT ?_); omega)
    | ((with_reducible refine oLeF ?_); omega)
    | (with_reducible exact jYes)
    | (with_reducible exact jAsN)
    | (with_reducible apply jAsg)
    | (with_reducible apply jAsC)
    | (with_reducible apply jSetLast)
    | (with_reducible apply jSetC)
    | (with_reducible exact jWN)
    | (with_reducible apply jWC)
    | (with_reducible exact jNo)
    | (with_reducible apply jNot)
    | (with_reducible apply jNotV)
    | (with_reducible exact setEnd)
    | (with_reducible exact tyI)
    | (with_reducible exact oIsN)
    | (with_reducible exact oIsNotN)
    | (with_reducible exact oIsNotTT)
    | ((with_reducible refine oMul ?_); omega)
    | ((with_reducible apply jInsGt); omega)
    | (with_reducible exact neT2)
    | (with_reducible exact oNeg)
    | (with_reducible exact oNeB)
    | (with_reducible exact oNeL0)
    | (with_reducible exact oNeL1)
    | (with_reducible exact oNeL2)
    | (with_reducible exact oNeR0)
    | ((with_reducible refine oNeT ?_); omega)
    | ((with_reducible refine oNeF ?_); omega)
    | ((with_reducible refine jNeRT ?_); rfl)
    | (with_reducible apply jSq)
    | (with_reducible apply jSqF)
    | (with_reducible apply jUn)
    | (with_reducible exact jMpN)
    | (with_reducible apply jMpC)
    | (with_reducible apply jGTp)
    | ((with_reducible refine oLtT ?_); omega)
    | ((with_reducible refine oLtF ?_); omega)
    | (with_reducible apply jTup)
    | (with_reducible exact oIntI)
    | (with_reducible apply jOr)
    | (with_reducible apply jOrV)
    | (with_reducible exact jLcN)
    | (with_reducible exact jLc2N)
    | (with_reducible apply jLc)
    | (with_reducible apply jLcC)
    | (with_reducible apply jLcK)
    | (with_reducible apply jLc2)
    | (with_reducible apply jLc2C)
    | (with_reducible exact atLast)
    | (with_reducible apply jCh)
    | (with_reducible apply jChK)
    | (with_reducible apply jExpr)
    | (with_reducible exact oSub)
    | (with_reducible exact insNil)
    | ((with_reducible refine insLt ?_); omega)
    | ((with_reducible refine insEq ?_); omega)
    | (with_reducible exact eAsT)
    | (with_reducible exact eAsL)
    | (with_reducible exact kII)
    | (with_reducible exact kIB)
    | (with_reducible exact jGxN)
    | (with_reducible exact jGxM)
    | (with_reducible apply jGx)
    | (with_reducible apply jGxC)
    | (with_reducible apply jGxK)
    | (with_reducible exact oListT)
    | (with_reducible apply jLenT)
    | (with_reducible apply jLenL)
    | (with_reducible apply jLenR)
    | ((with_reducible refine oGtT ?_); omega)
    | ((with_reducible refine oGtF ?_); omega)
    | (with_reducible exact tyT)
    | (with_reducible exact kTT)
    | (with_reducible exact jKret)
    | (with_reducible exact jZN)
    | (with_reducible exact jZN2)
    | (with_reducible apply jZp)
    | (with_reducible apply jZC)
    | (with_reducible exact ssetN)
    | (with_reducible apply jSS)
    | ((with_reducible refine oGeT ?_); omega)
    | ((with_reducible refine oGeF ?_); omega)
    | (with_reducible exact asQT)
    | (with_reducible exact asQL)
    | (with_reducible apply jSlT)
    | ((with_reducible refine oDiv ?_); omega)
    | (with_reducible exact jFret)
    | (with_reducible exact iN1)
    | (with_reducible exact iN2)
    | (with_reducible exact iN3)
    | (with_reducible exact oTupL)
    | (with_reducible exact oTupT)
    | (with_reducible exact tyN)
    | (with_reducible exact tyB)
    | (with_reducible exact kIT)
    | (with_reducible exact kIL)
    | ((with_reducible refine oMaxL ?_); omega)
    | ((with_reducible refine oMaxR ?_); omega)
    | (show Int.toNat _ = _; (try simp only [List.length_cons, List.length_nil, Nat.zero_add, Nat.reduceAdd, Int.cast_ofNat_Int, Int.reduceToNat, Int.reduceSub, Int.toNat_natCast]); (try rfl); done)
    | (show List.length _ = _; (try simp only [List.length_cons, List.length_nil, List.length_append, List.cons_append, List.nil_append, Nat.zero_add, Nat.reduceAdd]); (try rfl); done)
    | (show Nat.ble _ _ = true; rfl)
    | (show atI _ _ = _; rfl)
    | (show one dAll _ _ = _; rfl)
    | (with_reducible rfl)
    | omega
    | with_reducible assumption)) (by repeat' (first
    | (with_reducible exact cB1)
    | (with_reducible exact cB0)
    | (with_reducible exact bS1)
    | (with_reducible exact bS2)
    | (with_reducible exact lBS)
    | (with_reducible exact pB)
    | (with_reducible exact ix31)
    | (with_reducible exact ix32)
    | (with_reducible apply jSetC')
    | (with_reducible apply jPop)
    | (with_reducible exact jSet0)
    | (with_reducible apply jSetS)
    | ((with_reducible apply jVar); rfl)
    | (with_reducible apply jOp)
    | (with_reducible exact eC)
    | (with_reducible apply jCons)
    | (with_reducible exact jNil)
    | (with_reducible apply jSeq)
    | (with_reducible apply jKnx)
    | (with_reducible exact jSt0)
    | (with_reducible apply jStN)
    | (with_reducible apply jStC)
    | ((with_reducible refine jIteT ?hp ?_); case hp => rfl)
    | ((with_reducible refine jIteF ?hp ?_); case hp => exact Bool.false_ne_true)
    | ((with_reducible refine jIteF ?hp ?_); case hp => decide)
    | (with_reducible exact jApN)
    | (with_reducible apply jAppend)
    | (with_reducible apply jApC)
    | (with_reducible exact jGNl)
    | (with_reducible apply jGNm)
    | (with_reducible apply jIxT)
    | (with_reducible apply jIxL)
    | (with_reducible apply jIxR)
    | (with_reducible exact oAdd)
    | (with_reducible exact oTB)
    | (with_reducible apply jTst)
    | (with_reducible apply jIf)
    | (with_reducible apply jIfE)
    | (with_reducible apply jAnd)
    | (with_reducible apply jAndV)
    | (with_reducible apply jCall)
    | (with_reducible apply jSet)
    | (with_reducible exact cellEnd)
    | (with_reducible exact jForN)
    | (with_reducible apply jFor)
    | (with_reducible apply jForC)
    | (with_reducible apply jCB)
    | (with_reducible apply jFnx)
    | (with_reducible exact jSNil)
    | (with_reducible apply jGCs)
    | (with_reducible exact jRN)
    | (with_reducible apply jR1)
    | (with_reducible apply jR2)
    | (with_reducible apply jRS)
    | (with_reducible exact jRetKL)
    | (with_reducible apply jRet)
    | (with_reducible apply jRetF)
    | (with_reducible apply jRetKR)
    | (with_reducible exact oEqB)
    | ((with_reducible refine oEqT ?_); omega)
    | ((with_reducible refine oEqF ?_); omega)
    | (with_reducible exact jTruR0)
    | (with_reducible exact jTruR1)
    | (with_reducible apply jTru)
    | (with_reducible apply jLst)
    | (with_reducible apply jLstM)
    | (with_reducible apply jPar)
    | (with_reducible apply jPar3)
    | (with_reducible apply jPart)
    | (with_reducible apply jIsi)
    | ((with_reducible show atI _ _ = _); rfl)
    | ((with_reducible show Nat.ble _ _ = true); rfl)
    | ((with_reducible refine oMod ?_); omega)
    | (with_reducible apply jAddR)
    | (with_reducible apply jAddL)
    | (with_reducible apply jAddT)
    | ((with_reducible refine oLeT ?_); omega)
    | ((with_reducible refine oLeF ?_); omega)
    | (with_reducible exact jYes)
    | (with_reducible exact jAsN)
    | (with_reducible apply jAsg)
    | (with_reducible apply jAsC)
    | (with_reducible apply jSetLast)
    | (with_reducible apply jSetC)
    | (with_reducible exact jWN)
    | (with_reducible apply jWC)
    | (with_reducible exact jNo)
    | (with_reducible apply jNot)
    | (with_reducible apply jNotV)
    | (with_reducible exact setEnd)
    | (with_reducible exact tyI)
    | (with_reducible exact oIsN)
    | (with_reducible exact oIsNotN)
    | (with_reducible exact oIsNotTT)
    | ((with_reducible refine oMul ?_); omega)
    | ((with_reducible apply jInsGt); omega)
    | (with_reducible exact neT2)
    | (with_reducible exact oNeg)
    | (with_reducible exact oNeB)
    | (with_reducible exact oNeL0)
    | (with_reducible exact oNeL1)
    | (with_reducible exact oNeL2)
    | (with_reducible exact oNeR0)
    | ((with_reducible refine oNeT ?_); omega)
    | ((with_reducible refine oNeF ?_); omega)
    | ((with_reducible refine jNeRT ?_); rfl)
    | (with_reducible apply jSq)
    | (with_reducible apply jSqF)
    | (with_reducible apply jUn)
    | (with_reducible exact jMpN)
    | (with_reducible apply jMpC)
    | (with_reducible apply jGTp)
    | ((with_reducible refine oLtT ?_); omega)
    | ((with_reducible refine oLtF ?_); omega)
    | (with_reducible apply jTup)
    | (with_reducible exact oIntI)
    | (with_reducible apply jOr)
    | (with_reducible apply jOrV)
    | (with_reducible exact jLcN)
    | (with_reducible exact jLc2N)
    | (with_reducible apply jLc)
    | (with_reducible apply jLcC)
    | (with_reducible apply jLcK)
    | (with_reducible apply jLc2)
    | (with_reducible apply jLc2C)
    | (with_reducible exact atLast)
    | (with_reducible apply jCh)
    | (with_reducible apply jChK)
    | (with_reducible apply jExpr)
    | (with_reducible exact oSub)
    | (with_reducible exact insNil)
    | ((with_reducible refine insLt ?_); omega)
    | ((with_reducible refine insEq ?_); omega)
    | (with_reducible exact eAsT)
    | (with_reducible exact eAsL)
    | (with_reducible exact kII)
    | (with_reducible exact kIB)
    | (with_reducible exact jGxN)
    | (with_reducible exact jGxM)
    | (with_reducible apply jGx)
    | (with_reducible apply jGxC)
    | (with_reducible apply jGxK)
    | (with_reducible exact oListT)
    | (with_reducible apply jLenT)
    | (with_reducible apply jLenL)
    | (with_reducible apply jLenR)
    | ((with_reducible refine oGtT ?_); omega)
    | ((with_reducible refine oGtF ?_); omega)
    | (with_reducible exact tyT)
    | (with_reducible exact kTT)
    | (with_reducible exact jKret)
    | (with_reducible exact jZN)
    | (with_reducible exact jZN2)
    | (with_reducible apply jZp)
    | (with_reducible apply jZC)
    | (with_reducible exact ssetN)
    | (with_reducible apply jSS)
    | ((with_reducible refine oGeT ?_); omega)
    | ((with_reducible refine oGeF ?_); omega)
    | (with_reducible exact asQT)
    | (with_reducible exact asQL)
    | (with_reducible apply jSlT)
    | ((with_reducible refine oDiv ?_); omega)
    | (with_reducible exact jFret)
    | (with_reducible exact iN1)
    | (with_reducible exact iN2)
    | (with_reducible exact iN3)
    | (with_reducible exact oTupL)
    | (with_reducible exact oTupT)
    | (with_reducible exact tyN)
    | (with_reducible exact tyB)
    | (with_reducible exact kIT)
    | (with_reducible exact kIL)
    | ((with_reducible refine oMaxL ?_); omega)
    | ((with_reducible refine oMaxR ?_); omega)
    | (show Int.toNat _ = _; (try simp only [List.length_cons, List.length_nil, Nat.zero_add, Nat.reduceAdd, Int.cast_ofNat_Int, Int.reduceToNat, Int.reduceSub, Int.toNat_natCast]); (try rfl); done)
    | (show List.length _ = _; (try simp only [List.length_cons, List.length_nil, List.length_append, List.cons_append, List.nil_append, Nat.zero_add, Nat.reduceAdd]); (try rfl); done)
    | (show Nat.ble _ _ = true; rfl)
    | (show atI _ _ = _; rfl)
    | (show one dAll _ _ = _; rfl)
    | (with_reducible rfl)
    | omega
    | with_reducible assumption)), ?_, ?_, ?_⟩ <;> omega
    · by_cases hz : 1000000000000000000 ≤ -2 * x - 1
      · refine ⟨_, _, _, run__law_load rfl (by repeat' (first
    | (with_reducible exact jSet0)
    | (with_reducible apply jSetS)
    | ((with_reducible apply jVar); rfl)
    | (with_reducible apply jOp)
    | (with_reducible exact eC)
    | (with_reducible apply jCons)
    | (with_reducible exact jNil)
    | (with_reducible apply jSeq)
    | (with_reducible apply jKnx)
    | (with_reducible exact jSt0)
    | (with_reducible apply jStN)
    | (with_reducible apply jStC)
    | ((with_reducible refine jIteT ?hp ?_); case hp => rfl)
    | ((with_reducible refine jIteF ?hp ?_); case hp => exact Bool.false_ne_true)
    | ((with_reducible refine jIteF ?hp ?_); case hp => decide)
    | (with_reducible exact jApN)
    | (with_reducible apply jAppend)
    | (with_reducible apply jApC)
    | (with_reducible exact jGNl)
    | (with_reducible apply jGNm)
    | (with_reducible apply jIxT)
    | (with_reducible apply jIxL)
    | (with_reducible apply jIxR)
    | (with_reducible exact oAdd)
    | (with_reducible exact oTB)
    | (with_reducible apply jTst)
    | (with_reducible apply jIf)
    | (with_reducible apply jIfE)
    | (with_reducible apply jAnd)
    | (with_reducible apply jAndV)
    | (with_reducible apply jCall)
    | (with_reducible apply jSet)
    | (with_reducible exact cellEnd)
    | (with_reducible exact jForN)
    | (with_reducible apply jFor)
    | (with_reducible apply jForC)
    | (with_reducible apply jCB)
    | (with_reducible apply jFnx)
    | (with_reducible exact jSNil)
    | (with_reducible apply jGCs)
    | (with_reducible exact jRN)
    | (with_reducible apply jR1)
    | (with_reducible apply jR2)
    | (with_reducible apply jRS)
    | (with_reducible exact jRetKL)
    | (with_reducible apply jRet)
    | (with_reducible apply jRetF)
    | (with_reducible apply jRetKR)
    | (with_reducible exact oEqB)
    | ((with_reducible refine oEqT ?_); omega)
    | ((with_reducible refine oEqF ?_); omega)
    | (with_reducible exact jTruR0)
    | (with_reducible exact jTruR1)
    | (with_reducible apply jTru)
    | (with_reducible apply jLst)
    | (with_reducible apply jLstM)
    | (with_reducible apply jPar)
    | (with_reducible apply jPar3)
    | (with_reducible apply jPart)
    | (with_reducible apply jIsi)
    | ((with_reducible show atI _ _ = _); rfl)
    | ((with_reducible show Nat.ble _ _ = true); rfl)
    | ((with_reducible refine oMod ?_); omega)
    | (with_reducible apply jAddR)
    | (with_reducible apply jAddL)
    | (with_reducible apply jAddT)
    | ((with_reducible refine oLeT ?_); omega)
    | ((with_reducible refine oLeF ?_); omega)
    | (with_reducible exact jYes)
    | (with_reducible exact jAsN)
    | (with_reducible apply jAsg)
    | (with_reducible apply jAsC)
    | (with_reducible apply jSetLast)
    | (with_reducible apply jSetC)
    | (with_reducible exact jWN)
    | (with_reducible apply jWC)
    | (with_reducible exact jNo)
    | (with_reducible apply jNot)
    | (with_reducible apply jNotV)
    | (with_reducible exact setEnd)
    | (with_reducible exact tyI)
    | (with_reducible exact oIsN)
    | (with_reducible exact oIsNotN)
    | (with_reducible exact oIsNotTT)
    | ((with_reducible refine oMul ?_); omega)
    | ((with_reducible apply jInsGt); omega)
    | (with_reducible exact neT2)
    | (with_reducible exact oNeg)
    | (with_reducible exact oNeB)
    | (with_reducible exact oNeL0)
    | (with_reducible exact oNeL1)
    | (with_reducible exact oNeL2)
    | (with_reducible exact oNeR0)
    | ((with_reducible refine oNeT ?_); omega)
    | ((with_reducible refine oNeF ?_); omega)
    | ((with_reducible refine jNeRT ?_); rfl)
    | (with_reducible apply jSq)
    | (with_reducible apply jSqF)
    | (with_reducible apply jUn)
    | (with_reducible exact jMpN)
    | (with_reducible apply jMpC)
    | (with_reducible apply jGTp)
    | ((with_reducible refine oLtT ?_); omega)
    | ((with_reducible refine oLtF ?_); omega)
    | (with_reducible apply jTup)
    | (with_reducible exact oIntI)
    | (with_reducible apply jOr)
    | (with_reducible apply jOrV)
    | (with_reducible exact jLcN)
    | (with_reducible exact jLc2N)
    | (with_reducible apply jLc)
    | (with_reducible apply jLcC)
    | (with_reducible apply jLcK)
    | (with_reducible apply jLc2)
    | (with_reducible apply jLc2C)
    | (with_reducible exact atLast)
    | (with_reducible apply jCh)
    | (with_reducible apply jChK)
    | (with_reducible apply jExpr)
    | (with_reducible exact oSub)
    | (with_reducible exact insNil)
    | ((with_reducible refine insLt ?_); omega)
    | ((with_reducible refine insEq ?_); omega)
    | (with_reducible exact eAsT)
    | (with_reducible exact eAsL)
    | (with_reducible exact kII)
    | (with_reducible exact kIB)
    | (with_reducible exact jGxN)
    | (with_reducible exact jGxM)
    | (with_reducible apply jGx)
    | (with_reducible apply jGxC)
    | (with_reducible apply jGxK)
    | (with_reducible exact oListT)
    | (with_reducible apply jLenT)
    | (with_reducible apply jLenL)
    | (with_reducible apply jLenR)
    | ((with_reducible refine oGtT ?_); omega)
    | ((with_reducible refine oGtF ?_); omega)
    | (with_reducible exact tyT)
    | (with_reducible exact kTT)
    | (with_reducible exact jKret)
    | (with_reducible exact jZN)
    | (with_reducible exact jZN2)
    | (with_reducible apply jZp)
    | (with_reducible apply jZC)
    | (with_reducible exact ssetN)
    | (with_reducible apply jSS)
    | ((with_reducible refine oGeT ?_); omega)
    | ((with_reducible refine oGeF ?_); omega)
    | (with_reducible exact asQT)
    | (with_reducible exact asQL)
    | (with_reducible apply jSlT)
    | ((with_reducible refine oDiv ?_); omega)
    | (with_reducible exact jFret)
    | (with_reducible exact iN1)
    | (with_reducible exact iN2)
    | (with_reducible exact iN3)
    | (with_reducible exact oTupL)
    | (with_reducible exact oTupT)
    | (with_reducible exact tyN)
    | (with_reducible exact tyB)
    | (with_reducible exact kIT)
    | (with_reducible exact kIL)
    | ((with_reducible refine oMaxL ?_); omega)
    | ((with_reducible refine oMaxR ?_); omega)
    | (show Int.toNat _ = _; (try simp only [List.length_cons, List.length_nil, Nat.zero_add, Nat.reduceAdd, Int.cast_ofNat_Int, Int.reduceToNat, Int.reduceSub, Int.toNat_natCast]); (try rfl); done)
    | (show List.length _ = _; (try simp only [List.length_cons, List.length_nil, List.length_append, List.cons_append, List.nil_append, Nat.zero_add, Nat.reduceAdd]); (try rfl); done)
    | (show Nat.ble _ _ = true; rfl)
    | (show atI _ _ = _; rfl)
    | (show one dAll _ _ = _; rfl)
    | (with_reducible rfl)
    | omega
    | with_reducible assumption)) (by repeat' (first
    | (with_reducible exact cB1)
    | (with_reducible exact cB0)
    | (with_reducible exact bS1)
    | (with_reducible exact bS2)
    | (with_reducible exact lBS)
    | (with_reducible exact pB)
    | (with_reducible exact ix31)
    | (with_reducible exact ix32)
    | (with_reducible apply jSetC')
    | (with_reducible apply jPop)
    | (with_reducible exact jSet0)
    | (with_reducible apply jSetS)
    | ((with_reducible apply jVar); rfl)
    | (with_reducible apply jOp)
    | (with_reducible exact eC)
    | (with_reducible apply jCons)
    | (with_reducible exact jNil)
    | (with_reducible apply jSeq)
    | (with_reducible apply jKnx)
    | (with_reducible exact jSt0)
    | (with_reducible apply jStN)
    | (with_reducible apply jStC)
    | ((with_reducible refine jIteT ?hp ?_); case hp => rfl)
    | ((with_reducible refine jIteF ?hp ?_); case hp => exact Bool.false_ne_true)
    | ((with_reducible refine jIteF ?hp ?_); case hp => decide)
    | (with_reducible exact jApN)
    | (with_reducible apply jAppend)
    | (with_reducible apply jApC)
    | (with_reducible exact jGNl)
    | (with_reducible apply jGNm)
    | (with_reducible apply jIxT)
    | (with_reducible apply jIxL)
    | (with_reducible apply jIxR)
    | (with_reducible exact oAdd)
    | (with_reducible exact oTB)
    | (with_reducible apply jTst)
    | (with_reducible apply jIf)
    | (with_reducible apply jIfE)
    | (with_reducible apply jAnd)
    | (with_reducible apply jAndV)
    | (with_reducible apply jCall)
    | (with_reducible apply jSet)
    | (with_reducible exact cellEnd)
    | (with_reducible exact jForN)
    | (with_reducible apply jFor)
    | (with_reducible apply jForC)
    | (with_reducible apply jCB)
    | (with_reducible apply jFnx)
    | (with_reducible exact jSNil)
    | (with_reducible apply jGCs)
    | (with_reducible exact jRN)
    | (with_reducible apply jR1)
    | (with_reducible apply jR2)
    | (with_reducible apply jRS)
    | (with_reducible exact jRetKL)
    | (with_reducible apply jRet)
    | (with_reducible apply jRetF)
    | (with_reducible apply jRetKR)
    | (with_reducible exact oEqB)
    | ((with_reducible refine oEqT ?_); omega)
    | ((with_reducible refine oEqF ?_); omega)
    | (with_reducible exact jTruR0)
    | (with_reducible exact jTruR1)
    | (with_reducible apply jTru)
    | (with_reducible apply jLst)
    | (with_reducible apply jLstM)
    | (with_reducible apply jPar)
    | (with_reducible apply jPar3)
    | (with_reducible apply jPart)
    | (with_reducible apply jIsi)
    | ((with_reducible show atI _ _ = _); rfl)
    | ((with_reducible show Nat.ble _ _ = true); rfl)
    | ((with_reducible refine oMod ?_); omega)
    | (with_reducible apply jAddR)
    | (with_reducible apply jAddL)
    | (with_reducible apply jAddT)
    | ((with_reducible refine oLeT ?_); omega)
    | ((with_reducible refine oLeF ?_); omega)
    | (with_reducible exact jYes)
    | (with_reducible exact jAsN)
    | (with_reducible apply jAsg)
    | (with_reducible apply jAsC)
    | (with_reducible apply jSetLast)
    | (with_reducible apply jSetC)
    | (with_reducible exact jWN)
    | (with_reducible apply jWC)
    | (with_reducible exact jNo)
    | (with_reducible apply jNot)
    | (with_reducible apply jNotV)
    | (with_reducible exact setEnd)
    | (with_reducible exact tyI)
    | (with_reducible exact oIsN)
    | (with_reducible exact oIsNotN)
    | (with_reducible exact oIsNotTT)
    | ((with_reducible refine oMul ?_); omega)
    | ((with_reducible apply jInsGt); omega)
    | (with_reducible exact neT2)
    | (with_reducible exact oNeg)
    | (with_reducible exact oNeB)
    | (with_reducible exact oNeL0)
    | (with_reducible exact oNeL1)
    | (with_reducible exact oNeL2)
    | (with_reducible exact oNeR0)
    | ((with_reducible refine oNeT ?_); omega)
    | ((with_reducible refine oNeF ?_); omega)
    | ((with_reducible refine jNeRT ?_); rfl)
    | (with_reducible apply jSq)
    | (with_reducible apply jSqF)
    | (with_reducible apply jUn)
    | (with_reducible exact jMpN)
    | (with_reducible apply jMpC)
    | (with_reducible apply jGTp)
    | ((with_reducible refine oLtT ?_); omega)
    | ((with_reducible refine oLtF ?_); omega)
    | (with_reducible apply jTup)
    | (with_reducible exact oIntI)
    | (with_reducible apply jOr)
    | (with_reducible apply jOrV)
    | (with_reducible exact jLcN)
    | (with_reducible exact jLc2N)
    | (with_reducible apply jLc)
    | (with_reducible apply jLcC)
    | (with_reducible apply jLcK)
    | (with_reducible apply jLc2)
    | (with_reducible apply jLc2C)
    | (with_reducible exact atLast)
    | (with_reducible apply jCh)
    | (with_reducible apply jChK)
    | (with_reducible apply jExpr)
    | (with_reducible exact oSub)
    | (with_reducible exact insNil)
    | ((with_reducible refine insLt ?_); omega)
    | ((with_reducible refine insEq ?_); omega)
    | (with_reducible exact eAsT)
    | (with_reducible exact eAsL)
    | (with_reducible exact kII)
    | (with_reducible exact kIB)
    | (with_reducible exact jGxN)
    | (with_reducible exact jGxM)
    | (with_reducible apply jGx)
    | (with_reducible apply jGxC)
    | (with_reducible apply jGxK)
    | (with_reducible exact oListT)
    | (with_reducible apply jLenT)
    | (with_reducible apply jLenL)
    | (with_reducible apply jLenR)
    | ((with_reducible refine oGtT ?_); omega)
    | ((with_reducible refine oGtF ?_); omega)
    | (with_reducible exact tyT)
    | (with_reducible exact kTT)
    | (with_reducible exact jKret)
    | (with_reducible exact jZN)
    | (with_reducible exact jZN2)
    | (with_reducible apply jZp)
    | (with_reducible apply jZC)
    | (with_reducible exact ssetN)
    | (with_reducible apply jSS)
    | ((with_reducible refine oGeT ?_); omega)
    | ((with_reducible refine oGeF ?_); omega)
    | (with_reducible exact asQT)
    | (with_reducible exact asQL)
    | (with_reducible apply jSlT)
    | ((with_reducible refine oDiv ?_); omega)
    | (with_reducible exact jFret)
    | (with_reducible exact iN1)
    | (with_reducible exact iN2)
    | (with_reducible exact iN3)
    | (with_reducible exact oTupL)
    | (with_reducible exact oTupT)
    | (with_reducible exact tyN)
    | (with_reducible exact tyB)
    | (with_reducible exact kIT)
    | (with_reducible exact kIL)
    | ((with_reducible refine oMaxL ?_); omega)
    | ((with_reducible refine oMaxR ?_); omega)
    | (show Int.toNat _ = _; (try simp only [List.length_cons, List.length_nil, Nat.zero_add, Nat.reduceAdd, Int.cast_ofNat_Int, Int.reduceToNat, Int.reduceSub, Int.toNat_natCast]); (try rfl); done)
    | (show List.length _ = _; (try simp only [List.length_cons, List.length_nil, List.length_append, List.cons_append, List.nil_append, Nat.zero_add, Nat.reduceAdd]); (try rfl); done)
    | (show Nat.ble _ _ = true; rfl)
    | (show atI _ _ = _; rfl)
    | (show one dAll _ _ = _; rfl)
    | (with_reducible rfl)
    | omega
    | with_reducible assumption)), ?_, ?_, ?_⟩ <;> omega
      · refine ⟨_, _, _, run__law_load rfl (by repeat' (first
    | (with_reducible exact jSet0)
    | (with_reducible apply jSetS)
    | ((with_reducible apply jVar); rfl)
    | (with_reducible apply jOp)
    | (with_reducible exact eC)
    | (with_reducible apply jCons)
    | (with_reducible exact jNil)
    | (with_reducible apply jSeq)
    | (with_reducible apply jKnx)
    | (with_reducible exact jSt0)
    | (with_reducible apply jStN)
    | (with_reducible apply jStC)
    | ((with_reducible refine jIteT ?hp ?_); case hp => rfl)
    | ((with_reducible refine jIteF ?hp ?_); case hp => exact Bool.false_ne_true)
    | ((with_reducible refine jIteF ?hp ?_); case hp => decide)
    | (with_reducible exact jApN)
    | (with_reducible apply jAppend)
    | (with_reducible apply jApC)
    | (with_reducible exact jGNl)
    | (with_reducible apply jGNm)
    | (with_reducible apply jIxT)
    | (with_reducible apply jIxL)
    | (with_reducible apply jIxR)
    | (with_reducible exact oAdd)
    | (with_reducible exact oTB)
    | (with_reducible apply jTst)
    | (with_reducible apply jIf)
    | (with_reducible apply jIfE)
    | (with_reducible apply jAnd)
    | (with_reducible apply jAndV)
    | (with_reducible apply jCall)
    | (with_reducible apply jSet)
    | (with_reducible exact cellEnd)
    | (with_reducible exact jForN)
    | (with_reducible apply jFor)
    | (with_reducible apply jForC)
    | (with_reducible apply jCB)
    | (with_reducible apply jFnx)
    | (with_reducible exact jSNil)
    | (with_reducible apply jGCs)
    | (with_reducible exact jRN)
    | (with_reducible apply jR1)
    | (with_reducible apply jR2)
    | (with_reducible apply jRS)
    | (with_reducible exact jRetKL)
    | (with_reducible apply jRet)
    | (with_reducible apply jRetF)
    | (with_reducible apply jRetKR)
    | (with_reducible exact oEqB)
    | ((with_reducible refine oEqT ?_); omega)
    | ((with_reducible refine oEqF ?_); omega)
    | (with_reducible exact jTruR0)
    | (with_reducible exact jTruR1)
    | (with_reducible apply jTru)
    | (with_reducible apply jLst)
    | (with_reducible apply jLstM)
    | (with_reducible apply jPar)
    | (with_reducible apply jPar3)
    | (with_reducible apply jPart)
    | (with_reducible apply jIsi)
    | ((with_reducible show atI _ _ = _); rfl)
    | ((with_reducible show Nat.ble _ _ = true); rfl)
    | ((with_reducible refine oMod ?_); omega)
    | (with_reducible apply jAddR)
    | (with_reducible apply jAddL)
    | (with_reducible apply jAddT)
    | ((with_reducible refine oLeT ?_); omega)
    | ((with_reducible refine oLeF ?_); omega)
    | (with_reducible exact jYes)
    | (with_reducible exact jAsN)
    | (with_reducible apply jAsg)
    | (with_reducible apply jAsC)
    | (with_reducible apply jSetLast)
    | (with_reducible apply jSetC)
    | (with_reducible exact jWN)
    | (with_reducible apply jWC)
    | (with_reducible exact jNo)
    | (with_reducible apply jNot)
    | (with_reducible apply jNotV)
    | (with_reducible exact setEnd)
    | (with_reducible exact tyI)
    | (with_reducible exact oIsN)
    | (with_reducible exact oIsNotN)
    | (with_reducible exact oIsNotTT)
    | ((with_reducible refine oMul ?_); omega)
    | ((with_reducible apply jInsGt); omega)
    | (with_reducible exact neT2)
    | (with_reducible exact oNeg)
    | (with_reducible exact oNeB)
    | (with_reducible exact oNeL0)
    | (with_reducible exact oNeL1)
    | (with_reducible exact oNeL2)
    | (with_reducible exact oNeR0)
    | ((with_reducible refine oNeT ?_); omega)
    | ((with_reducible refine oNeF ?_); omega)
    | ((with_reducible refine jNeRT ?_); rfl)
    | (with_reducible apply jSq)
    | (with_reducible apply jSqF)
    | (with_reducible apply jUn)
    | (with_reducible exact jMpN)
    | (with_reducible apply jMpC)
    | (with_reducible apply jGTp)
    | ((with_reducible refine oLtT ?_); omega)
    | ((with_reducible refine oLtF ?_); omega)
    | (with_reducible apply jTup)
    | (with_reducible exact oIntI)
    | (with_reducible apply jOr)
    | (with_reducible apply jOrV)
    | (with_reducible exact jLcN)
    | (with_reducible exact jLc2N)
    | (with_reducible apply jLc)
    | (with_reducible apply jLcC)
    | (with_reducible apply jLcK)
    | (with_reducible apply jLc2)
    | (with_reducible apply jLc2C)
    | (with_reducible exact atLast)
    | (with_reducible apply jCh)
    | (with_reducible apply jChK)
    | (with_reducible apply jExpr)
    | (with_reducible exact oSub)
    | (with_reducible exact insNil)
    | ((with_reducible refine insLt ?_); omega)
    | ((with_reducible refine insEq ?_); omega)
    | (with_reducible exact eAsT)
    | (with_reducible exact eAsL)
    | (with_reducible exact kII)
    | (with_reducible exact kIB)
    | (with_reducible exact jGxN)
    | (with_reducible exact jGxM)
    | (with_reducible apply jGx)
    | (with_reducible apply jGxC)
    | (with_reducible apply jGxK)
    | (with_reducible exact oListT)
    | (with_reducible apply jLenT)
    | (with_reducible apply jLenL)
    | (with_reducible apply jLenR)
    | ((with_reducible refine oGtT ?_); omega)
    | ((with_reducible refine oGtF ?_); omega)
    | (with_reducible exact tyT)
    | (with_reducible exact kTT)
    | (with_reducible exact jKret)
    | (with_reducible exact jZN)
    | (with_reducible exact jZN2)
    | (with_reducible apply jZp)
    | (with_reducible apply jZC)
    | (with_reducible exact ssetN)
    | (with_reducible apply jSS)
    | ((with_reducible refine oGeT ?_); omega)
    | ((with_reducible refine oGeF ?_); omega)
    | (with_reducible exact asQT)
    | (with_reducible exact asQL)
    | (with_reducible apply jSlT)
    | ((with_reducible refine oDiv ?_); omega)
    | (with_reducible exact jFret)
    | (with_reducible exact iN1)
    | (with_reducible exact iN2)
    | (with_reducible exact iN3)
    | (with_reducible exact oTupL)
    | (with_reducible exact oTupT)
    | (with_reducible exact tyN)
    | (with_reducible exact tyB)
    | (with_reducible exact kIT)
    | (with_reducible exact kIL)
    | ((with_reducible refine oMaxL ?_); omega)
    | ((with_reducible refine oMaxR ?_); omega)
    | (show Int.toNat _ = _; (try simp only [List.length_cons, List.length_nil, Nat.zero_add, Nat.reduceAdd, Int.cast_ofNat_Int, Int.reduceToNat, Int.reduceSub, Int.toNat_natCast]); (try rfl); done)
    | (show List.length _ = _; (try simp only [List.length_cons, List.length_nil, List.length_append, List.cons_append, List.nil_append, Nat.zero_add, Nat.reduceAdd]); (try rfl); done)
    | (show Nat.ble _ _ = true; rfl)
    | (show atI _ _ = _; rfl)
    | (show one dAll _ _ = _; rfl)
    | (with_reducible rfl)
    | omega
    | with_reducible assumption)) (by repeat' (first
    | (with_reducible exact cB1)
    | (with_reducible exact cB0)
    | (with_reducible exact bS1)
    | (with_reducible exact bS2)
    | (with_reducible exact lBS)
    | (with_reducible exact pB)
    | (with_reducible exact ix31)
    | (with_reducible exact ix32)
    | (with_reducible apply jSetC')
    | (with_reducible apply jPop)
    | (with_reducible exact jSet0)
    | (with_reducible apply jSetS)
    | ((with_reducible apply jVar); rfl)
    | (with_reducible apply jOp)
    | (with_reducible exact eC)
    | (with_reducible apply jCons)
    | (with_reducible exact jNil)
    | (with_reducible apply jSeq)
    | (with_reducible apply jKnx)
    | (with_reducible exact jSt0)
    | (with_reducible apply jStN)
    | (with_reducible apply jStC)
    | ((with_reducible refine jIteT ?hp ?_); case hp => rfl)
    | ((with_reducible refine jIteF ?hp ?_); case hp => exact Bool.false_ne_true)
    | ((with_reducible refine jIteF ?hp ?_); case hp => decide)
    | (with_reducible exact jApN)
    | (with_reducible apply jAppend)
    | (with_reducible apply jApC)
    | (with_reducible exact jGNl)
    | (with_reducible apply jGNm)
    | (with_reducible apply jIxT)
    | (with_reducible apply jIxL)
    | (with_reducible apply jIxR)
    | (with_reducible exact oAdd)
    | (with_reducible exact oTB)
    | (with_reducible apply jTst)
    | (with_reducible apply jIf)
    | (with_reducible apply jIfE)
    | (with_reducible apply jAnd)
    | (with_reducible apply jAndV)
    | (with_reducible apply jCall)
    | (with_reducible apply jSet)
    | (with_reducible exact cellEnd)
    | (with_reducible exact jForN)
    | (with_reducible apply jFor)
    | (with_reducible apply jForC)
    | (with_reducible apply jCB)
    | (with_reducible apply jFnx)
    | (with_reducible exact jSNil)
    | (with_reducible apply jGCs)
    | (with_reducible exact jRN)
    | (with_reducible apply jR1)
    | (with_reducible apply jR2)
    | (with_reducible apply jRS)
    | (with_reducible exact jRetKL)
    | (with_reducible apply jRet)
    | (with_reducible apply jRetF)
    | (with_reducible apply jRetKR)
    | (with_reducible exact oEqB)
    | ((with_reducible refine oEqT ?_); omega)
    | ((with_reducible refine oEqF ?_); omega)
    | (with_reducible exact jTruR0)
    | (with_reducible exact jTruR1)
    | (with_reducible apply jTru)
    | (with_reducible apply jLst)
    | (with_reducible apply jLstM)
    | (with_reducible apply jPar)
    | (with_reducible apply jPar3)
    | (with_reducible apply jPart)
    | (with_reducible apply jIsi)
    | ((with_reducible show atI _ _ = _); rfl)
    | ((with_reducible show Nat.ble _ _ = true); rfl)
    | ((with_reducible refine oMod ?_); omega)
    | (with_reducible apply jAddR)
    | (with_reducible apply jAddL)
    | (with_reducible apply jAddT)
    | ((with_reducible refine oLeT ?_); omega)
    | ((with_reducible refine oLeF ?_); omega)
    | (with_reducible exact jYes)
    | (with_reducible exact jAsN)
    | (with_reducible apply jAsg)
    | (with_reducible apply jAsC)
    | (with_reducible apply jSetLast)
    | (with_reducible apply jSetC)
    | (with_reducible exact jWN)
    | (with_reducible apply jWC)
    | (with_reducible exact jNo)
    | (with_reducible apply jNot)
    | (with_reducible apply jNotV)
    | (with_reducible exact setEnd)
    | (with_reducible exact tyI)
    | (with_reducible exact oIsN)
    | (with_reducible exact oIsNotN)
    | (with_reducible exact oIsNotTT)
    | ((with_reducible refine oMul ?_); omega)
    | ((with_reducible apply jInsGt); omega)
    | (with_reducible exact neT2)
    | (with_reducible exact oNeg)
    | (with_reducible exact oNeB)
    | (with_reducible exact oNeL0)
    | (with_reducible exact oNeL1)
    | (with_reducible exact oNeL2)
    | (with_reducible exact oNeR0)
    | ((with_reducible refine oNeT ?_); omega)
    | ((with_reducible refine oNeF ?_); omega)
    | ((with_reducible refine jNeRT ?_); rfl)
    | (with_reducible apply jSq)
    | (with_reducible apply jSqF)
    | (with_reducible apply jUn)
    | (with_reducible exact jMpN)
    | (with_reducible apply jMpC)
    | (with_reducible apply jGTp)
    | ((with_reducible refine oLtT ?_); omega)
    | ((with_reducible refine oLtF ?_); omega)
    | (with_reducible apply jTup)
    | (with_reducible exact oIntI)
    | (with_reducible apply jOr)
    | (with_reducible apply jOrV)
    | (with_reducible exact jLcN)
    | (with_reducible exact jLc2N)
    | (with_reducible apply jLc)
    | (with_reducible apply jLcC)
    | (with_reducible apply jLcK)
    | (with_reducible apply jLc2)
    | (with_reducible apply jLc2C)
    | (with_reducible exact atLast)
    | (with_reducible apply jCh)
    | (with_reducible apply jChK)
    | (with_reducible apply jExpr)
    | (with_reducible exact oSub)
    | (with_reducible exact insNil)
    | ((with_reducible refine insLt ?_); omega)
    | ((with_reducible refine insEq ?_); omega)
    | (with_reducible exact eAsT)
    | (with_reducible exact eAsL)
    | (with_reducible exact kII)
    | (with_reducible exact kIB)
    | (with_reducible exact jGxN)
    | (with_reducible exact jGxM)
    | (with_reducible apply jGx)
    | (with_reducible apply jGxC)
    | (with_reducible apply jGxK)
    | (with_reducible exact oListT)
    | (with_reducible apply jLenT)
    | (with_reducible apply jLenL)
    | (with_reducible apply jLenR)
    | ((with_reducible refine oGtT ?_); omega)
    | ((with_reducible refine oGtF ?_); omega)
    | (with_reducible exact tyT)
    | (with_reducible exact kTT)
    | (with_reducible exact jKret)
    | (with_reducible exact jZN)
    | (with_reducible exact jZN2)
    | (with_reducible apply jZp)
    | (with_reducible apply jZC)
    | (with_reducible exact ssetN)
    | (with_reducible apply jSS)
    | ((with_reducible refine oGeT ?_); omega)
    | ((with_reducible refine oGeF ?_); omega)
    | (with_reducible exact asQT)
    | (with_reducible exact asQL)
    | (with_reducible apply jSlT)
    | ((with_reducible refine oDiv ?_); omega)
    | (with_reducible exact jFret)
    | (with_reducible exact iN1)
    | (with_reducible exact iN2)
    | (with_reducible exact iN3)
    | (with_reducible exact oTupL)
    | (with_reducible exact oTupT)
    | (with_reducible exact tyN)
    | (with_reducible exact tyB)
    | (with_reducible exact kIT)
    | (with_reducible exact kIL)
    | ((with_reducible refine oMaxL ?_); omega)
    | ((with_reducible refine oMaxR ?_); omega)
    | (show Int.toNat _ = _; (try simp only [List.length_cons, List.length_nil, Nat.zero_add, Nat.reduceAdd, Int.cast_ofNat_Int, Int.reduceToNat, Int.reduceSub, Int.toNat_natCast]); (try rfl); done)
    | (show List.length _ = _; (try simp only [List.length_cons, List.length_nil, List.length_append, List.cons_append, List.nil_append, Nat.zero_add, Nat.reduceAdd]); (try rfl); done)
    | (show Nat.ble _ _ = true; rfl)
    | (show atI _ _ = _; rfl)
    | (show one dAll _ _ = _; rfl)
    | (with_reducible rfl)
    | omega
    | with_reducible assumption)), ?_, ?_, ?_⟩ <;> omega
theorem dr (cells : List Int) (v c m : Int) (hc : 0 ≤ c ∧ c < 4294967296) (hv : 0 ≤ v) (hm : 1 ≤ m ∧ m ≤ 2000) : ∃ d cells' v' c', F__law_draw [.ref 1, .int m] (BX cells v c) = some (.int d, BX cells' v' c') ∧ (0 ≤ d ∧ d < m) ∧ (0 ≤ c' ∧ c' < 4294967296) ∧ 0 ≤ v' := by
  by_cases h : v < m
  · obtain ⟨r, cells', c', e, h1, h2⟩ := ld cells v c hc
    refine ⟨_, _, _, _, run__law_draw rfl (by repeat' (first
    | (with_reducible exact jSet0)
    | (with_reducible apply jSetS)
    | ((with_reducible apply jVar); rfl)
    | (with_reducible apply jOp)
    | (with_reducible exact eC)
    | (with_reducible apply jCons)
    | (with_reducible exact jNil)
    | (with_reducible apply jSeq)
    | (with_reducible apply jKnx)
    | (with_reducible exact jSt0)
    | (with_reducible apply jStN)
    | (with_reducible apply jStC)
    | ((with_reducible refine jIteT ?hp ?_); case hp => rfl)
    | ((with_reducible refine jIteF ?hp ?_); case hp => exact Bool.false_ne_true)
    | ((with_reducible refine jIteF ?hp ?_); case hp => decide)
    | (with_reducible exact jApN)
    | (with_reducible apply jAppend)
    | (with_reducible apply jApC)
    | (with_reducible exact jGNl)
    | (with_reducible apply jGNm)
    | (with_reducible apply jIxT)
    | (with_reducible apply jIxL)
    | (with_reducible apply jIxR)
    | (with_reducible exact oAdd)
    | (with_reducible exact oTB)
    | (with_reducible apply jTst)
    | (with_reducible apply jIf)
    | (with_reducible apply jIfE)
    | (with_reducible apply jAnd)
    | (with_reducible apply jAndV)
    | (with_reducible apply jCall)
    | (with_reducible apply jSet)
    | (with_reducible exact cellEnd)
    | (with_reducible exact jForN)
    | (with_reducible apply jFor)
    | (with_reducible apply jForC)
    | (with_reducible apply jCB)
    | (with_reducible apply jFnx)
    | (with_reducible exact jSNil)
    | (with_reducible apply jGCs)
    | (with_reducible exact jRN)
    | (with_reducible apply jR1)
    | (with_reducible apply jR2)
    | (with_reducible apply jRS)
    | (with_reducible exact jRetKL)
    | (with_reducible apply jRet)
    | (with_reducible apply jRetF)
    | (with_reducible apply jRetKR)
    | (with_reducible exact oEqB)
    | ((with_reducible refine oEqT ?_); omega)
    | ((with_reducible refine oEqF ?_); omega)
    | (with_reducible exact jTruR0)
    | (with_reducible exact jTruR1)
    | (with_reducible apply jTru)
    | (with_reducible apply jLst)
    | (with_reducible apply jLstM)
    | (with_reducible apply jPar)
    | (with_reducible apply jPar3)
    | (with_reducible apply jPart)
    | (with_reducible apply jIsi)
    | ((with_reducible show atI _ _ = _); rfl)
    | ((with_reducible show Nat.ble _ _ = true); rfl)
    | ((with_reducible refine oMod ?_); omega)
    | (with_reducible apply jAddR)
    | (with_reducible apply jAddL)
    | (with_reducible apply jAddT)
    | ((with_reducible refine oLeT ?_); omega)
    | ((with_reducible refine oLeF ?_); omega)
    | (with_reducible exact jYes)
    | (with_reducible exact jAsN)
    | (with_reducible apply jAsg)
    | (with_reducible apply jAsC)
    | (with_reducible apply jSetLast)
    | (with_reducible apply jSetC)
    | (with_reducible exact jWN)
    | (with_reducible apply jWC)
    | (with_reducible exact jNo)
    | (with_reducible apply jNot)
    | (with_reducible apply jNotV)
    | (with_reducible exact setEnd)
    | (with_reducible exact tyI)
    | (with_reducible exact oIsN)
    | (with_reducible exact oIsNotN)
    | (with_reducible exact oIsNotTT)
    | ((with_reducible refine oMul ?_); omega)
    | ((with_reducible apply jInsGt); omega)
    | (with_reducible exact neT2)
    | (with_reducible exact oNeg)
    | (with_reducible exact oNeB)
    | (with_reducible exact oNeL0)
    | (with_reducible exact oNeL1)
    | (with_reducible exact oNeL2)
    | (with_reducible exact oNeR0)
    | ((with_reducible refine oNeT ?_); omega)
    | ((with_reducible refine oNeF ?_); omega)
    | ((with_reducible refine jNeRT ?_); rfl)
    | (with_reducible apply jSq)
    | (with_reducible apply jSqF)
    | (with_reducible apply jUn)
    | (with_reducible exact jMpN)
    | (with_reducible apply jMpC)
    | (with_reducible apply jGTp)
    | ((with_reducible refine oLtT ?_); omega)
    | ((with_reducible refine oLtF ?_); omega)
    | (with_reducible apply jTup)
    | (with_reducible exact oIntI)
    | (with_reducible apply jOr)
    | (with_reducible apply jOrV)
    | (with_reducible exact jLcN)
    | (with_reducible exact jLc2N)
    | (with_reducible apply jLc)
    | (with_reducible apply jLcC)
    | (with_reducible apply jLcK)
    | (with_reducible apply jLc2)
    | (with_reducible apply jLc2C)
    | (with_reducible exact atLast)
    | (with_reducible apply jCh)
    | (with_reducible apply jChK)
    | (with_reducible apply jExpr)
    | (with_reducible exact oSub)
    | (with_reducible exact insNil)
    | ((with_reducible refine insLt ?_); omega)
    | ((with_reducible refine insEq ?_); omega)
    | (with_reducible exact eAsT)
    | (with_reducible exact eAsL)
    | (with_reducible exact kII)
    | (with_reducible exact kIB)
    | (with_reducible exact jGxN)
    | (with_reducible exact jGxM)
    | (with_reducible apply jGx)
    | (with_reducible apply jGxC)
    | (with_reducible apply jGxK)
    | (with_reducible exact oListT)
    | (with_reducible apply jLenT)
    | (with_reducible apply jLenL)
    | (with_reducible apply jLenR)
    | ((with_reducible refine oGtT ?_); omega)
    | ((with_reducible refine oGtF ?_); omega)
    | (with_reducible exact tyT)
    | (with_reducible exact kTT)
    | (with_reducible exact jKret)
    | (with_reducible exact jZN)
    | (with_reducible exact jZN2)
    | (with_reducible apply jZp)
    | (with_reducible apply jZC)
    | (with_reducible exact ssetN)
    | (with_reducible apply jSS)
    | ((with_reducible refine oGeT ?_); omega)
    | ((with_reducible refine oGeF ?_); omega)
    | (with_reducible exact asQT)
    | (with_reducible exact asQL)
    | (with_reducible apply jSlT)
    | ((with_reducible refine oDiv ?_); omega)
    | (with_reducible exact jFret)
    | (with_reducible exact iN1)
    | (with_reducible exact iN2)
    | (with_reducible exact iN3)
    | (with_reducible exact oTupL)
    | (with_reducible exact oTupT)
    | (with_reducible exact tyN)
    | (with_reducible exact tyB)
    | (with_reducible exact kIT)
    | (with_reducible exact kIL)
    | ((with_reducible refine oMaxL ?_); omega)
    | ((with_reducible refine oMaxR ?_); omega)
    | (show Int.toNat _ = _; (try simp only [List.length_cons, List.length_nil, Nat.zero_add, Nat.reduceAdd, Int.cast_ofNat_Int, Int.reduceToNat, Int.reduceSub, Int.toNat_natCast]); (try rfl); done)
    | (show List.length _ = _; (try simp only [List.length_cons, List.length_nil, List.length_append, List.cons_append, List.nil_append, Nat.zero_add, Nat.reduceAdd]); (try rfl); done)
    | (show Nat.ble _ _ = true; rfl)
    | (show atI _ _ = _; rfl)
    | (show one dAll _ _ = _; rfl)
    | (with_reducible rfl)
    | omega
    | with_reducible assumption)) (by repeat' (first
    | (with_reducible exact e)
    | (with_reducible exact cB1)
    | (with_reducible exact cB0)
    | (with_reducible exact bS1)
    | (with_reducible exact bS2)
    | (with_reducible exact ix31)
    | (with_reducible exact ix32)
    | (with_reducible apply jSetC')
    | (with_reducible exact jSet0)
    | (with_reducible apply jSetS)
    | ((with_reducible apply jVar); rfl)
    | (with_reducible apply jOp)
    | (with_reducible exact eC)
    | (with_reducible apply jCons)
    | (with_reducible exact jNil)
    | (with_reducible apply jSeq)
    | (with_reducible apply jKnx)
    | (with_reducible exact jSt0)
    | (with_reducible apply jStN)
    | (with_reducible apply jStC)
    | ((with_reducible refine jIteT ?hp ?_); case hp => rfl)
    | ((with_reducible refine jIteF ?hp ?_); case hp => exact Bool.false_ne_true)
    | ((with_reducible refine jIteF ?hp ?_); case hp => decide)
    | (with_reducible exact jApN)
    | (with_reducible apply jAppend)
    | (with_reducible apply jApC)
    | (with_reducible exact jGNl)
    | (with_reducible apply jGNm)
    | (with_reducible apply jIxT)
    | (with_reducible apply jIxL)
    | (with_reducible apply jIxR)
    | (with_reducible exact oAdd)
    | (with_reducible exact oTB)
    | (with_reducible apply jTst)
    | (with_reducible apply jIf)
    | (with_reducible apply jIfE)
    | (with_reducible apply jAnd)
    | (with_reducible apply jAndV)
    | (with_reducible apply jCall)
    | (with_reducible apply jSet)
    | (with_reducible exact cellEnd)
    | (with_reducible exact jForN)
    | (with_reducible apply jFor)
    | (with_reducible apply jForC)
    | (with_reducible apply jCB)
    | (with_reducible apply jFnx)
    | (with_reducible exact jSNil)
    | (with_reducible apply jGCs)
    | (with_reducible exact jRN)
    | (with_reducible apply jR1)
    | (with_reducible apply jR2)
    | (with_reducible apply jRS)
    | (with_reducible exact jRetKL)
    | (with_reducible apply jRet)
    | (with_reducible apply jRetF)
    | (with_reducible apply jRetKR)
    | (with_reducible exact oEqB)
    | ((with_reducible refine oEqT ?_); omega)
    | ((with_reducible refine oEqF ?_); omega)
    | (with_reducible exact jTruR0)
    | (with_reducible exact jTruR1)
    | (with_reducible apply jTru)
    | (with_reducible apply jLst)
    | (with_reducible apply jLstM)
    | (with_reducible apply jPar)
    | (with_reducible apply jPar3)
    | (with_reducible apply jPart)
    | (with_reducible apply jIsi)
    | ((with_reducible show atI _ _ = _); rfl)
    | ((with_reducible show Nat.ble _ _ = true); rfl)
    | ((with_reducible refine oMod ?_); omega)
    | (with_reducible apply jAddR)
    | (with_reducible apply jAddL)
    | (with_reducible apply jAddT)
    | ((with_reducible refine oLeT ?_); omega)
    | ((with_reducible refine oLeF ?_); omega)
    | (with_reducible exact jYes)
    | (with_reducible exact jAsN)
    | (with_reducible apply jAsg)
    | (with_reducible apply jAsC)
    | (with_reducible apply jSetLast)
    | (with_reducible apply jSetC)
    | (with_reducible exact jWN)
    | (with_reducible apply jWC)
    | (with_reducible exact jNo)
    | (with_reducible apply jNot)
    | (with_reducible apply jNotV)
    | (with_reducible exact setEnd)
    | (with_reducible exact tyI)
    | (with_reducible exact oIsN)
    | (with_reducible exact oIsNotN)
    | (with_reducible exact oIsNotTT)
    | ((with_reducible refine oMul ?_); omega)
    | ((with_reducible apply jInsGt); omega)
    | (with_reducible exact neT2)
    | (with_reducible exact oNeg)
    | (with_reducible exact oNeB)
    | (with_reducible exact oNeL0)
    | (with_reducible exact oNeL1)
    | (with_reducible exact oNeL2)
    | (with_reducible exact oNeR0)
    | ((with_reducible refine oNeT ?_); omega)
    | ((with_reducible refine oNeF ?_); omega)
    | ((with_reducible refine jNeRT ?_); rfl)
    | (with_reducible apply jSq)
    | (with_reducible apply jSqF)
    | (with_reducible apply jUn)
    | (with_reducible exact jMpN)
    | (with_reducible apply jMpC)
    | (with_reducible apply jGTp)
    | ((with_reducible refine oLtT ?_); omega)
    | ((with_reducible refine oLtF ?_); omega)
    | (with_reducible apply jTup)
    | (with_reducible exact oIntI)
    | (with_reducible apply jOr)
    | (with_reducible apply jOrV)
    | (with_reducible exact jLcN)
    | (with_reducible exact jLc2N)
    | (with_reducible apply jLc)
    | (with_reducible apply jLcC)
    | (with_reducible apply jLcK)
    | (with_reducible apply jLc2)
    | (with_reducible apply jLc2C)
    | (with_reducible exact atLast)
    | (with_reducible apply jCh)
    | (with_reducible apply jChK)
    | (with_reducible apply jExpr)
    | (with_reducible exact oSub)
    | (with_reducible exact insNil)
    | ((with_reducible refine insLt ?_); omega)
    | ((with_reducible refine insEq ?_); omega)
    | (with_reducible exact eAsT)
    | (with_reducible exact eAsL)
    | (with_reducible exact kII)
    | (with_reducible exact kIB)
    | (with_reducible exact jGxN)
    | (with_reducible exact jGxM)
    | (with_reducible apply jGx)
    | (with_reducible apply jGxC)
    | (with_reducible apply jGxK)
    | (with_reducible exact oListT)
    | (with_reducible apply jLenT)
    | (with_reducible apply jLenL)
    | (with_reducible apply jLenR)
    | ((with_reducible refine oGtT ?_); omega)
    | ((with_reducible refine oGtF ?_); omega)
    | (with_reducible exact tyT)
    | (with_reducible exact kTT)
    | (with_reducible exact jKret)
    | (with_reducible exact jZN)
    | (with_reducible exact jZN2)
    | (with_reducible apply jZp)
    | (with_reducible apply jZC)
    | (with_reducible exact ssetN)
    | (with_reducible apply jSS)
    | ((with_reducible refine oGeT ?_); omega)
    | ((with_reducible refine oGeF ?_); omega)
    | (with_reducible exact asQT)
    | (with_reducible exact asQL)
    | (with_reducible apply jSlT)
    | ((with_reducible refine oDiv ?_); omega)
    | (with_reducible exact jFret)
    | (with_reducible exact iN1)
    | (with_reducible exact iN2)
    | (with_reducible exact iN3)
    | (with_reducible exact oTupL)
    | (with_reducible exact oTupT)
    | (with_reducible exact tyN)
    | (with_reducible exact tyB)
    | (with_reducible exact kIT)
    | (with_reducible exact kIL)
    | ((with_reducible refine oMaxL ?_); omega)
    | ((with_reducible refine oMaxR ?_); omega)
    | (show Int.toNat _ = _; (try simp only [List.length_cons, List.length_nil, Nat.zero_add, Nat.reduceAdd, Int.cast_ofNat_Int, Int.reduceToNat, Int.reduceSub, Int.toNat_natCast]); (try rfl); done)
    | (show List.length _ = _; (try simp only [List.length_cons, List.length_nil, List.length_append, List.cons_append, List.nil_append, Nat.zero_add, Nat.reduceAdd]); (try rfl); done)
    | (show Nat.ble _ _ = true; rfl)
    | (show atI _ _ = _; rfl)
    | (show one dAll _ _ = _; rfl)
    | (with_reducible rfl)
    | omega
    | with_reducible assumption)), ⟨Int.emod_nonneg _ (by omega), Int.emod_lt_of_pos _ (by omega)⟩, h2, Int.ediv_nonneg h1 (by omega)⟩
  · refine ⟨_, _, _, _, run__law_draw rfl (by repeat' (first
    | (with_reducible exact jSet0)
    | (with_reducible apply jSetS)
    | ((with_reducible apply jVar); rfl)
    | (with_reducible apply jOp)
    | (with_reducible exact eC)
    | (with_reducible apply jCons)
    | (with_reducible exact jNil)
    | (with_reducible apply jSeq)
    | (with_reducible apply jKnx)
    | (with_reducible exact jSt0)
    | (with_reducible apply jStN)
    | (with_reducible apply jStC)
    | ((with_reducible refine jIteT ?hp ?_); case hp => rfl)
    | ((with_reducible refine jIteF ?hp ?_); case hp => exact Bool.false_ne_true)
    | ((with_reducible refine jIteF ?hp ?_); case hp => decide)
    | (with_reducible exact jApN)
    | (with_reducible apply jAppend)
    | (with_reducible apply jApC)
    | (with_reducible exact jGNl)
    | (with_reducible apply jGNm)
    | (with_reducible apply jIxT)
    | (with_reducible apply jIxL)
    | (with_reducible apply jIxR)
    | (with_reducible exact oAdd)
    | (with_reducible exact oTB)
    | (with_reducible apply jTst)
    | (with_reducible apply jIf)
    | (with_reducible apply jIfE)
    | (with_reducible apply jAnd)
    | (with_reducible apply jAndV)
    | (with_reducible apply jCall)
    | (with_reducible apply jSet)
    | (with_reducible exact cellEnd)
    | (with_reducible exact jForN)
    | (with_reducible apply jFor)
    | (with_reducible apply jForC)
    | (with_reducible apply jCB)
    | (with_reducible apply jFnx)
    | (with_reducible exact jSNil)
    | (with_reducible apply jGCs)
    | (with_reducible exact jRN)
    | (with_reducible apply jR1)
    | (with_reducible apply jR2)
    | (with_reducible apply jRS)
    | (with_reducible exact jRetKL)
    | (with_reducible apply jRet)
    | (with_reducible apply jRetF)
    | (with_reducible apply jRetKR)
    | (with_reducible exact oEqB)
    | ((with_reducible refine oEqT ?_); omega)
    | ((with_reducible refine oEqF ?_); omega)
    | (with_reducible exact jTruR0)
    | (with_reducible exact jTruR1)
    | (with_reducible apply jTru)
    | (with_reducible apply jLst)
    | (with_reducible apply jLstM)
    | (with_reducible apply jPar)
    | (with_reducible apply jPar3)
    | (with_reducible apply jPart)
    | (with_reducible apply jIsi)
    | ((with_reducible show atI _ _ = _); rfl)
    | ((with_reducible show Nat.ble _ _ = true); rfl)
    | ((with_reducible refine oMod ?_); omega)
    | (with_reducible apply jAddR)
    | (with_reducible apply jAddL)
    | (with_reducible apply jAddT)
    | ((with_reducible refine oLeT ?_); omega)
    | ((with_reducible refine oLeF ?_); omega)
    | (with_reducible exact jYes)
    | (with_reducible exact jAsN)
    | (with_reducible apply jAsg)
    | (with_reducible apply jAsC)
    | (with_reducible apply jSetLast)
    | (with_reducible apply jSetC)
    | (with_reducible exact jWN)
    | (with_reducible apply jWC)
    | (with_reducible exact jNo)
    | (with_reducible apply jNot)
    | (with_reducible apply jNotV)
    | (with_reducible exact setEnd)
    | (with_reducible exact tyI)
    | (with_reducible exact oIsN)
    | (with_reducible exact oIsNotN)
    | (with_reducible exact oIsNotTT)
    | ((with_reducible refine oMul ?_); omega)
    | ((with_reducible apply jInsGt); omega)
    | (with_reducible exact neT2)
    | (with_reducible exact oNeg)
    | (with_reducible exact oNeB)
    | (with_reducible exact oNeL0)
    | (with_reducible exact oNeL1)
    | (with_reducible exact oNeL2)
    | (with_reducible exact oNeR0)
    | ((with_reducible refine oNeT ?_); omega)
    | ((with_reducible refine oNeF ?_); omega)
    | ((with_reducible refine jNeRT ?_); rfl)
    | (with_reducible apply jSq)
    | (with_reducible apply jSqF)
    | (with_reducible apply jUn)
    | (with_reducible exact jMpN)
    | (with_reducible apply jMpC)
    | (with_reducible apply jGTp)
    | ((with_reducible refine oLtT ?_); omega)
    | ((with_reducible refine oLtF ?_); omega)
    | (with_reducible apply jTup)
    | (with_reducible exact oIntI)
    | (with_reducible apply jOr)
    | (with_reducible apply jOrV)
    | (with_reducible exact jLcN)
    | (with_reducible exact jLc2N)
    | (with_reducible apply jLc)
    | (with_reducible apply jLcC)
    | (with_reducible apply jLcK)
    | (with_reducible apply jLc2)
    | (with_reducible apply jLc2C)
    | (with_reducible exact atLast)
    | (with_reducible apply jCh)
    | (with_reducible apply jChK)
    | (with_reducible apply jExpr)
    | (with_reducible exact oSub)
    | (with_reducible exact insNil)
    | ((with_reducible refine insLt ?_); omega)
    | ((with_reducible refine insEq ?_); omega)
    | (with_reducible exact eAsT)
    | (with_reducible exact eAsL)
    | (with_reducible exact kII)
    | (with_reducible exact kIB)
    | (with_reducible exact jGxN)
    | (with_reducible exact jGxM)
    | (with_reducible apply jGx)
    | (with_reducible apply jGxC)
    | (with_reducible apply jGxK)
    | (with_reducible exact oListT)
    | (with_reducible apply jLenT)
    | (with_reducible apply jLenL)
    | (with_reducible apply jLenR)
    | ((with_reducible refine oGtT ?_); omega)
    | ((with_reducible refine oGtF ?_); omega)
    | (with_reducible exact tyT)
    | (with_reducible exact kTT)
    | (with_reducible exact jKret)
    | (with_reducible exact jZN)
    | (with_reducible exact jZN2)
    | (with_reducible apply jZp)
    | (with_reducible apply jZC)
    | (with_reducible exact ssetN)
    | (with_reducible apply jSS)
    | ((with_reducible refine oGeT ?_); omega)
    | ((with_reducible refine oGeF ?_); omega)
    | (with_reducible exact asQT)
    | (with_reducible exact asQL)
    | (with_reducible apply jSlT)
    | ((with_reducible refine oDiv ?_); omega)
    | (with_reducible exact jFret)
    | (with_reducible exact iN1)
    | (with_reducible exact iN2)
    | (with_reducible exact iN3)
    | (with_reducible exact oTupL)
    | (with_reducible exact oTupT)
    | (with_reducible exact tyN)
    | (with_reducible exact tyB)
    | (with_reducible exact kIT)
    | (with_reducible exact kIL)
    | ((with_reducible refine oMaxL ?_); omega)
    | ((with_reducible refine oMaxR ?_); omega)
    | (show Int.toNat _ = _; (try simp only [List.length_cons, List.length_nil, Nat.zero_add, Nat.reduceAdd, Int.cast_ofNat_Int, Int.reduceToNat, Int.reduceSub, Int.toNat_natCast]); (try rfl); done)
    | (show List.length _ = _; (try simp only [List.length_cons, List.length_nil, List.length_append, List.cons_append, List.nil_append, Nat.zero_add, Nat.reduceAdd]); (try rfl); done)
    | (show Nat.ble _ _ = true; rfl)
    | (show atI _ _ = _; rfl)
    | (show one dAll _ _ = _; rfl)
    | (with_reducible rfl)
    | omega
    | with_reducible assumption)) (by repeat' (first
    | (with_reducible exact cB1)
    | (with_reducible exact cB0)
    | (with_reducible exact bS1)
    | (with_reducible exact bS2)
    | (with_reducible exact ix31)
    | (with_reducible exact ix32)
    | (with_reducible apply jSetC')
    | (with_reducible exact jSet0)
    | (with_reducible apply jSetS)
    | ((with_reducible apply jVar); rfl)
    | (with_reducible apply jOp)
    | (with_reducible exact eC)
    | (with_reducible apply jCons)
    | (with_reducible exact jNil)
    | (with_reducible apply jSeq)
    | (with_reducible apply jKnx)
    | (with_reducible exact jSt0)
    | (with_reducible apply jStN)
    | (with_reducible apply jStC)
    | ((with_reducible refine jIteT ?hp ?_); case hp => rfl)
    | ((with_reducible refine jIteF ?hp ?_); case hp => exact Bool.false_ne_true)
    | ((with_reducible refine jIteF ?hp ?_); case hp => decide)
    | (with_reducible exact jApN)
    | (with_reducible apply jAppend)
    | (with_reducible apply jApC)
    | (with_reducible exact jGNl)
    | (with_reducible apply jGNm)
    | (with_reducible apply jIxT)
    | (with_reducible apply jIxL)
    | (with_reducible apply jIxR)
    | (with_reducible exact oAdd)
    | (with_reducible exact oTB)
    | (with_reducible apply jTst)
    | (with_reducible apply jIf)
    | (with_reducible apply jIfE)
    | (with_reducible apply jAnd)
    | (with_reducible apply jAndV)
    | (with_reducible apply jCall)
    | (with_reducible apply jSet)
    | (with_reducible exact cellEnd)
    | (with_reducible exact jForN)
    | (with_reducible apply jFor)
    | (with_reducible apply jForC)
    | (with_reducible apply jCB)
    | (with_reducible apply jFnx)
    | (with_reducible exact jSNil)
    | (with_reducible apply jGCs)
    | (with_reducible exact jRN)
    | (with_reducible apply jR1)
    | (with_reducible apply jR2)
    | (with_reducible apply jRS)
    | (with_reducible exact jRetKL)
    | (with_reducible apply jRet)
    | (with_reducible apply jRetF)
    | (with_reducible apply jRetKR)
    | (with_reducible exact oEqB)
    | ((with_reducible refine oEqT ?_); omega)
    | ((with_reducible refine oEqF ?_); omega)
    | (with_reducible exact jTruR0)
    | (with_reducible exact jTruR1)
    | (with_reducible apply jTru)
    | (with_reducible apply jLst)
    | (with_reducible apply jLstM)
    | (with_reducible apply jPar)
    | (with_reducible apply jPar3)
    | (with_reducible apply jPart)
    | (with_reducible apply jIsi)
    | ((with_reducible show atI _ _ = _); rfl)
    | ((with_reducible show Nat.ble _ _ = true); rfl)
    | ((with_reducible refine oMod ?_); omega)
    | (with_reducible apply jAddR)
    | (with_reducible apply jAddL)
    | (with_reducible apply jAddT)
    | ((with_reducible refine oLeT ?_); omega)
    | ((with_reducible refine oLeF ?_); omega)
    | (with_reducible exact jYes)
    | (with_reducible exact jAsN)
    | (with_reducible apply jAsg)
    | (with_reducible apply jAsC)
    | (with_reducible apply jSetLast)
    | (with_reducible apply jSetC)
    | (with_reducible exact jWN)
    | (with_reducible apply jWC)
    | (with_reducible exact jNo)
    | (with_reducible apply jNot)
    | (with_reducible apply jNotV)
    | (with_reducible exact setEnd)
    | (with_reducible exact tyI)
    | (with_reducible exact oIsN)
    | (with_reducible exact oIsNotN)
    | (with_reducible exact oIsNotTT)
    | ((with_reducible refine oMul ?_); omega)
    | ((with_reducible apply jInsGt); omega)
    | (with_reducible exact neT2)
    | (with_reducible exact oNeg)
    | (with_reducible exact oNeB)
    | (with_reducible exact oNeL0)
    | (with_reducible exact oNeL1)
    | (with_reducible exact oNeL2)
    | (with_reducible exact oNeR0)
    | ((with_reducible refine oNeT ?_); omega)
    | ((with_reducible refine oNeF ?_); omega)
    | ((with_reducible refine jNeRT ?_); rfl)
    | (with_reducible apply jSq)
    | (with_reducible apply jSqF)
    | (with_reducible apply jUn)
    | (with_reducible exact jMpN)
    | (with_reducible apply jMpC)
    | (with_reducible apply jGTp)
    | ((with_reducible refine oLtT ?_); omega)
    | ((with_reducible refine oLtF ?_); omega)
    | (with_reducible apply jTup)
    | (with_reducible exact oIntI)
    | (with_reducible apply jOr)
    | (with_reducible apply jOrV)
    | (with_reducible exact jLcN)
    | (with_reducible exact jLc2N)
    | (with_reducible apply jLc)
    | (with_reducible apply jLcC)
    | (with_reducible apply jLcK)
    | (with_reducible apply jLc2)
    | (with_reducible apply jLc2C)
    | (with_reducible exact atLast)
    | (with_reducible apply jCh)
    | (with_reducible apply jChK)
    | (with_reducible apply jExpr)
    | (with_reducible exact oSub)
    | (with_reducible exact insNil)
    | ((with_reducible refine insLt ?_); omega)
    | ((with_reducible refine insEq ?_); omega)
    | (with_reducible exact eAsT)
    | (with_reducible exact eAsL)
    | (with_reducible exact kII)
    | (with_reducible exact kIB)
    | (with_reducible exact jGxN)
    | (with_reducible exact jGxM)
    | (with_reducible apply jGx)
    | (with_reducible apply jGxC)
    | (with_reducible apply jGxK)
    | (with_reducible exact oListT)
    | (with_reducible apply jLenT)
    | (with_reducible apply jLenL)
    | (with_reducible apply jLenR)
    | ((with_reducible refine oGtT ?_); omega)
    | ((with_reducible refine oGtF ?_); omega)
    | (with_reducible exact tyT)
    | (with_reducible exact kTT)
    | (with_reducible exact jKret)
    | (with_reducible exact jZN)
    | (with_reducible exact jZN2)
    | (with_reducible apply jZp)
    | (with_reducible apply jZC)
    | (with_reducible exact ssetN)
    | (with_reducible apply jSS)
    | ((with_reducible refine oGeT ?_); omega)
    | ((with_reducible refine oGeF ?_); omega)
    | (with_reducible exact asQT)
    | (with_reducible exact asQL)
    | (with_reducible apply jSlT)
    | ((with_reducible refine oDiv ?_); omega)
    | (with_reducible exact jFret)
    | (with_reducible exact iN1)
    | (with_reducible exact iN2)
    | (with_reducible exact iN3)
    | (with_reducible exact oTupL)
    | (with_reducible exact oTupT)
    | (with_reducible exact tyN)
    | (with_reducible exact tyB)
    | (with_reducible exact kIT)
    | (with_reducible exact kIL)
    | ((with_reducible refine oMaxL ?_); omega)
    | ((with_reducible refine oMaxR ?_); omega)
    | (show Int.toNat _ = _; (try simp only [List.length_cons, List.length_nil, Nat.zero_add, Nat.reduceAdd, Int.cast_ofNat_Int, Int.reduceToNat, Int.reduceSub, Int.toNat_natCast]); (try rfl); done)
    | (show List.length _ = _; (try simp only [List.length_cons, List.length_nil, List.length_append, List.cons_append, List.nil_append, Nat.zero_add, Nat.reduceAdd]); (try rfl); done)
    | (show Nat.ble _ _ = true; rfl)
    | (show atI _ _ = _; rfl)
    | (show one dAll _ _ = _; rfl)
    | (with_reducible rfl)
    | omega
    | with_reducible assumption)), ⟨Int.emod_nonneg _ (by omega), Int.emod_lt_of_pos _ (by omega)⟩, hc, Int.ediv_nonneg hv (by omega)⟩
end K51

namespace K51
open PySem PySem.Spec PyProof.Rows L2 DL
section
variable {K : PySem.W.Frag} {S : Store}
/-- the rows that are heard: n of them from lo -/
def rowsU (f g : Int) : Nat → Int → List D
  | 0, _ => []
  | n + 1, lo => .tup [.int lo, .bl (upB [f, g] lo)] :: rowsU f g n (lo + 1)
theorem rowsU_length (f g : Int) : ∀ (n : Nat) (lo : Int), (rowsU f g n lo).length = n
  | 0, _ => rfl
  | n + 1, lo => by unfold rowsU; rw [List.length_cons, rowsU_length]
theorem lc_rows (f g : Int) {a0 a1 a2 a3 a5 a6 : Option D} : ∀ (n : Nat) (lo : Int) (z : Option D), lcL (gNm 7) fYes (fTup (fCons (fVar 7) (fCons (fCall F__law_is_up (fCons (fVar 4) (fCons (fVar 7) fNil))) fNil))) (rng lo n) [a0, a1, a2, a3, some (.tup [.int f, .int g]), a5, a6, z] S = some (rowsU f g n lo, S)
  | 0, lo, z => rfl
  | n + 1, lo, z => by
    have ih := lc_rows f g (a0 := a0) (a1 := a1) (a2 := a2) (a3 := a3) (a5 := a5) (a6 := a6) n (lo + 1) z
    rw [rngS]
    refine jLcC (p := true) (sl1 := [a0, a1, a2, a3, some (.tup [.int f, .int g]), a5, a6, some (.int lo)]) rfl rfl ?_
    rw [if_pos rfl]
    refine jLcK (jTup (jCons (jVar rfl) (jCons (jCall (jCons (jVar rfl) (jCons (jVar rfl) jNil)) (ev_up2 f g lo S)) jNil)) rfl) ih
abbrev tst (K : PySem.W.Frag) : FT := fTru (fMeth (He.ga K "Settler") "hear" (F_Settler_hear K) (fVar 2) (fCons (fVar 3) (fCons (fVar 4) fNil)))
abbrev tgt : GF := gTp 2 (gCs (gNm 3) (gCs (gNm 4) gNl))
theorem tst_ok {s t : Int} {d u q d' : Bool} {x x' : D} {b0 b1 : Option D} (h : F_Settler_hear K [.ref S.length, .int t, .bl u] (S ++ [stM K s d x]) = some (.bl q, S ++ [stM K s d' x'])) :
    tst K [b0, b1, some (.ref S.length), some (.int t), some (.bl u)] (S ++ [stM K s d x]) = some (q, S ++ [stM K s d' x']) := by
  unfold tst
  refine jTru (x := .bl q) ?_ rfl
  show (fVar 2 [b0, b1, some (.ref S.length), some (.int t), some (.bl u)] (S ++ [stM K s d x])).bind _ = _
  rw [show fVar 2 [b0, b1, some (.ref S.length), some (.int t), some (.bl u)] (S ++ [stM K s d x]) = some (.ref S.length, S ++ [stM K s d x]) from rfl, Option.bind_some]
  show (cellI (S ++ [stM K s d x]) S.length).bind _ = _
  rw [cellIEnd, Option.bind_some, if_pos ⟨rfl, by simp only [getD_, ne7, ne8, ne9, if_false]⟩]
  show ((fCons (fVar 3) (fCons (fVar 4) fNil)) [b0, b1, some (.ref S.length), some (.int t), some (.bl u)] (S ++ [stM K s d x])).bind _ = _
  rw [show (fCons (fVar 3) (fCons (fVar 4) fNil)) [b0, b1, some (.ref S.length), some (.int t), some (.bl u)] (S ++ [stM K s d x]) = some ([.int t, .bl u], S ++ [stM K s d x]) from rfl, Option.bind_some]
  exact h
/-- a row that is not taken -/
theorem skip1 {s lo f g : Int} {d d' : Bool} {x x' : D} {b0 b1 b3 b4 : Option D} {n : Nat} {R : Option (List D × Store)} (h : F_Settler_hear K [.ref S.length, .int lo, .bl (upB [f, g] lo)] (S ++ [stM K s d x]) = some (.bl false, S ++ [stM K s d' x']))
    (h2 : lcL tgt (tst K) (fVar 3) (rowsU f g n (lo + 1)) [b0, b1, some (.ref S.length), b3, b4] (S ++ [stM K s d' x']) = R) :
    lcL tgt (tst K) (fVar 3) (rowsU f g (n + 1) lo) [b0, b1, some (.ref S.length), b3, b4] (S ++ [stM K s d x]) = R := by
  unfold rowsU
  refine jLcC (p := false) (sl1 := [b0, b1, some (.ref S.length), some (.int lo), some (.bl (upB [f, g] lo))]) rfl (tst_ok h) ?_
  rw [if_neg Bool.false_ne_true]
  exact h2
theorem take1 {s lo f g : Int} {d d' : Bool} {x x' : D} {b0 b1 b3 b4 : Option D} {n : Nat} {l : List D} {S3 : Store} (h : F_Settler_hear K [.ref S.length, .int lo, .bl (upB [f, g] lo)] (S ++ [stM K s d x]) = some (.bl true, S ++ [stM K s d' x']))
    (h2 : lcL tgt (tst K) (fVar 3) (rowsU f g n (lo + 1)) [b0, b1, some (.ref S.length), b3, b4] (S ++ [stM K s d' x']) = some (l, S3)) :
    lcL tgt (tst K) (fVar 3) (rowsU f g (n + 1) lo) [b0, b1, some (.ref S.length), b3, b4] (S ++ [stM K s d x]) = some (.int lo :: l, S3) := by
  unfold rowsU
  refine jLcC (p := true) (sl1 := [b0, b1, some (.ref S.length), some (.int lo), some (.bl (upB [f, g] lo))]) rfl (tst_ok h) ?_
  rw [if_pos rfl]
  exact jLcK (jVar rfl) h2
theorem upLo {f g t : Int} (h : t < f ∧ f < g) : upB [f, g] t = false := upB_f (by rw [cntF (by omega), cntF (by omega), cntN])
theorem upMid {f g t : Int} (h : f ≤ t ∧ t < g) : upB [f, g] t = true := upB_t (by rw [cntT (by omega), cntF (by omega), cntN])
theorem upHi {f g t : Int} (h : f < g ∧ g ≤ t) : upB [f, g] t = false := upB_f (by rw [cntT (by omega), cntT (by omega), cntN])
variable {b0 b1 b3 b4 : Option D} {s f g : Int}
theorem ph1 (hfg : f < g) {R : Option (List D × Store)} (m : Nat) (h : lcL tgt (tst K) (fVar 3) (rowsU f g m f) [b0, b1, some (.ref S.length), b3, b4] (S ++ [stM K s false .non]) = R) : ∀ (n : Nat) (lo : Int), lo + n = f →
    lcL tgt (tst K) (fVar 3) (rowsU f g (n + m) lo) [b0, b1, some (.ref S.length), b3, b4] (S ++ [stM K s false .non]) = R
  | 0, lo, e => by
    have : lo = f := by omega
    subst this
    rw [Nat.zero_add]
    exact h
  | n + 1, lo, e => by
    rw [Nat.succ_add]
    refine skip1 (d' := false) (x' := .non) ?_ (ph1 hfg m h n (lo + 1) (by omega))
    rw [upLo (by omega)]
    exact hear_same s lo false .non
theorem ph2 (u d : Bool) (z e1 : Int) (hu : ∀ t, z ≤ t → t < e1 → upB [f, g] t = u) (hd : (u == d) = false) (hz : e1 ≤ z + s) {R : Option (List D × Store)} (m : Nat) (h : lcL tgt (tst K) (fVar 3) (rowsU f g m e1) [b0, b1, some (.ref S.length), b3, b4] (S ++ [stM K s d (.int z)]) = R) : ∀ (n : Nat) (lo : Int), z ≤ lo → lo + n = e1 →
    lcL tgt (tst K) (fVar 3) (rowsU f g (n + m) lo) [b0, b1, some (.ref S.length), b3, b4] (S ++ [stM K s d (.int z)]) = R
  | 0, lo, _, e => by
    have : lo = e1 := by omega
    subst this
    rw [Nat.zero_add]
    exact h
  | n + 1, lo, hlo, e => by
    rw [Nat.succ_add]
    refine skip1 (d' := d) (x' := .int z) ?_ (ph2 u d z e1 hu hd hz m h n (lo + 1) (by omega) (by omega))
    rw [hu lo hlo (by omega)]
    exact hear_wait s lo z (by omega) d u hd
/-- what the machine takes -/
theorem taken (hs : 0 < s) (hf : 0 ≤ f) (hg : g = f + s + 1) : lcL tgt (tst K) (fVar 3) (rowsU f g (f + 2 * s + 2).toNat 0) [b0, b1, some (.ref S.length), b3, b4] (S ++ [stM K s false .non]) = some ([.int (f + s), .int (g + s)], S ++ [stM K s false .non]) := by
  obtain ⟨F, rfl⟩ : ∃ F : Nat, f = F := ⟨f.toNat, by omega⟩
  obtain ⟨s', rfl⟩ : ∃ s' : Nat, s = s' + 1 := ⟨(s - 1).toNat, by omega⟩
  have en : ((F : Int) + 2 * ((s' : Int) + 1) + 2).toNat = F + (1 + (s' + (1 + (1 + (s' + (1 + 0)))))) := by omega
  rw [en]
  refine ph1 (by omega) _ ?_ F 0 (by omega)
  rw [Nat.add_comm 1]
  refine skip1 (d' := false) (x' := .int F) (by rw [upMid (by omega)]; exact hear_new _ _ (by omega) false true rfl) ?_
  refine ph2 true false F (F + (s' + 1)) (fun t h1 h2 => upMid (by omega)) rfl (by omega) _ ?_ s' (F + 1) (by omega) (by omega)
  rw [Nat.add_comm 1]
  refine take1 (d' := true) (x' := .non) (by rw [upMid (by omega)]; exact hear_turn _ _ F (by omega) false true rfl) ?_
  rw [Nat.add_comm 1]
  have eg : (F : Int) + (s' + 1) + 1 = g := by omega
  rw [eg]
  refine skip1 (d' := true) (x' := .int g) (by rw [upHi (by omega)]; exact hear_new _ _ (by omega) true false rfl) ?_
  refine ph2 false true g (g + (s' + 1)) (fun t h1 h2 => upHi (by omega)) rfl (by omega) _ ?_ s' (g + 1) (by omega) (by omega)
  refine take1 (d' := false) (x' := .non) (by rw [upHi (by omega)]; exact hear_turn _ _ g (by omega) true false rfl) ?_
  rfl
end
end K51

namespace K51
open PySem PySem.Spec PyProof.Rows L2 DL
section
variable {K : PySem.W.Frag} {S : Store}
theorem ev_init (s : Int) : F_Settler_init K [.ref S.length, .int s] (S ++ [.ins (He.ga K "Settler") []]) = some (.non, S ++ [stM K s false .non]) := by
  simp (disch := omega) only [F_Settler_init, B_Settler_init, stM, zFldD, cellIEnd, putD, ne1, ne2, ne3, ne4, ne5, ne6, and_true, true_and, and_self, Option.bind_some, Option.bind_none, Option.map_some, List.length_cons, List.length_nil, List.length_map, List.map_cons, List.map_nil, List.set_cons_zero, List.set_cons_succ, List.cons_append, List.nil_append, List.append_nil, List.replicate_succ, List.replicate_zero, Nat.reduceAdd, Nat.reduceSub, Nat.reduceLeDiff, Nat.reduceLT, Nat.lt_irrefl, Int.reduceMod, Int.reduceBEq, Int.reduceMul, Int.reduceSub, Int.cast_ofNat_Int, Int.reduceToNat, Int.toNat_natCast, if_true, if_false, ite_true, ite_false, Bool.false_eq_true, Bool.true_eq_false, reduceIte, reduceCtorEq, Bool.not_true, Bool.not_false, sizeLine_eq, Nat.zero_add, Int.reduceAdd, Int.reduceNeg, Int.zero_add, beq_self_eq_true, eq_self, dAdd_lst, dAdd_tup, eVar0, eVarS, eC, eNil, eCons, eOp, eUn, eCB, eTst, eTru, eNot, eAnd, eOr, eIfE, eAndV, eOrV, eNotV, eCh, eTup, eLst, eLstM, eCall, eRet, eSeq, eSNil, eIf, eSet, eAsg, ePar, ePar3, eExpr, eFor, eForN, eForC, eGNm, eGNl, eGCs, eGTp, eSq, eAsT, eAsL, eZp, eR1, eR2, oR1, oR2, eLc, eLcN, eLcC, eYes, eWN, eWC, eGx, eGxN, eGxC, eRun, eStart, oAdd, oSub, oNeg, oMul, oMod, oDiv, oLeT, oLeF, oGtT, oGtF, oGeT, oGeF, oLtT, oLtF, oEqT, oEqF, oNeT, oNeF, oEqB, oNeB, oIsN, oIsNotN, iN1, iN2, iN3, oIsNotTT, oTB, oIxT, oIxL, oIxR, at0, at1, at2, at3, at4, at5, at6, atLast, atm1, atm2, atm4, oLenT, oLenL, oIntI, oTupL, oTupT, oListT, oMaxL, oMaxR, rng0, rngS, zipN, zipN2, zipC, eIsi, tyI, tyT, tyN, tyB, kII, kIB, kIT, kIL, kTT, eSetIx, eSl, eNo, ePart, oSl1, eMt, eAppend, eRetF, cellEnd, setEnd, ixm, ix31, ix32, atm3, atm5, toPys_ints, rw3_py, rows_py, oNeR, oNeR0, rw3_below, rows_below, eTruR, eIE1, eIE2, oNeI, oNeL0, oNeL1, oNeL2, kbTF, kbFT, insLt, insEq, insGt, insNil, ssetN, ssetC, eSS, asQT, asQL, asIN, asIC]
theorem ev_setA (f g s : Int) (hs : 0 < s) (hf : 0 ≤ f) (hg : g = f + s + 1) (h9 : f < 3000 ∧ s < 3000) (hS : Sok S = true) : F_settled_ticks K [.int s, .tup (rowsU f g (g + s + 1).toNat 0)] S = some (.tup [.int (f + s), .int (g + s)], S) := by
  have en : (g + s + 1).toNat = (f + 2 * s + 2).toNat := by omega
  rw [en]
  refine gc_eq (R := [stM K s false .non]) (run_settled_ticks (K := K) rfl (by repeat' (first
    | (with_reducible exact jSet0)
    | (with_reducible apply jSetS)
    | ((with_reducible apply jVar); rfl)
    | (with_reducible apply jOp)
    | (with_reducible exact eC)
    | (with_reducible apply jCons)
    | (with_reducible exact jNil)
    | (with_reducible apply jSeq)
    | (with_reducible apply jKnx)
    | (with_reducible exact jSt0)
    | (with_reducible apply jStN)
    | (with_reducible apply jStC)
    | ((with_reducible refine jIteT ?hp ?_); case hp => rfl)
    | ((with_reducible refine jIteF ?hp ?_); case hp => exact Bool.false_ne_true)
    | ((with_reducible refine jIteF ?hp ?_); case hp => decide)
    | (with_reducible exact jApN)
    | (with_reducible apply jAppend)
    | (with_reducible apply jApC)
    | (with_reducible exact jGNl)
    | (with_reducible apply jGNm)
    | (with_reducible apply jIxT)
    | (with_reducible apply jIxL)
    | (with_reducible apply jIxR)
    | (with_reducible exact oAdd)
    | (with_reducible exact oTB)
    | (with_reducible apply jTst)
    | (with_reducible apply jIf)
    | (with_reducible apply jIfE)
    | (with_reducible apply jAnd)
    | (with_reducible apply jAndV)
    | (with_reducible apply jCall)
    | (with_reducible apply jSet)
    | (with_reducible exact cellEnd)
    | (with_reducible exact jForN)
    | (with_reducible apply jFor)
    | (with_reducible apply jForC)
    | (with_reducible apply jCB)
    | (with_reducible apply jFnx)
    | (with_reducible exact jSNil)
    | (with_reducible apply jGCs)
    | (with_reducible exact jRN)
    | (with_reducible apply jR1)
    | (with_reducible apply jR2)
    | (with_reducible apply jRS)
    | (with_reducible exact jRetKL)
    | (with_reducible apply jRet)
    | (with_reducible apply jRetF)
    | (with_reducible apply jRetKR)
    | (with_reducible exact oEqB)
    | ((with_reducible refine oEqT ?_); omega)
    | ((with_reducible refine oEqF ?_); omega)
    | (with_reducible exact jTruR0)
    | (with_reducible exact jTruR1)
    | (with_reducible apply jTru)
    | (with_reducible apply jLst)
    | (with_reducible apply jLstM)
    | (with_reducible apply jPar)
    | (with_reducible apply jPar3)
    | (with_reducible apply jPart)
    | (with_reducible apply jIsi)
    | ((with_reducible show atI _ _ = _); rfl)
    | ((with_reducible show Nat.ble _ _ = true); rfl)
    | ((with_reducible refine oMod ?_); omega)
    | (with_reducible apply jAddR)
    | (with_reducible apply jAddL)
    | (with_reducible apply jAddT)
    | ((with_reducible refine oLeT ?_); omega)
    | ((with_reducible refine oLeF ?_); omega)
    | (with_reducible exact jYes)
    | (with_reducible exact jAsN)
    | (with_reducible apply jAsg)
    | (with_reducible apply jAsC)
    | (with_reducible apply jSetLast)
    | (with_reducible apply jSetC)
    | (with_reducible exact jWN)
    | (with_reducible apply jWC)
    | (with_reducible exact jNo)
    | (with_reducible apply jNot)
    | (with_reducible apply jNotV)
    | (with_reducible exact setEnd)
    | (with_reducible exact tyI)
    | (with_reducible exact oIsN)
    | (with_reducible exact oIsNotN)
    | (with_reducible exact oIsNotTT)
    | ((with_reducible refine oMul ?_); omega)
    | ((with_reducible apply jInsGt); omega)
    | (with_reducible exact neT2)
    | (with_reducible exact oNeg)
    | (with_reducible exact oNeB)
    | (with_reducible exact oNeL0)
    | (with_reducible exact oNeL1)
    | (with_reducible exact oNeL2)
    | (with_reducible exact oNeR0)
    | ((with_reducible refine oNeT ?_); omega)
    | ((with_reducible refine oNeF ?_); omega)
    | ((with_reducible refine jNeRT ?_); rfl)
    | (with_reducible apply jSq)
    | (with_reducible apply jSqF)
    | (with_reducible apply jUn)
    | (with_reducible exact jMpN)
    | (with_reducible apply jMpC)
    | (with_reducible apply jGTp)
    | ((with_reducible refine oLtT ?_); omega)
    | ((with_reducible refine oLtF ?_); omega)
    | (with_reducible apply jTup)
    | (with_reducible exact oIntI)
    | (with_reducible apply jOr)
    | (with_reducible apply jOrV)
    | (with_reducible exact jLcN)
    | (with_reducible exact jLc2N)
    | (with_reducible apply jLc)
    | (with_reducible apply jLcC)
    | (with_reducible apply jLcK)
    | (with_reducible apply jLc2)
    | (with_reducible apply jLc2C)
    | (with_reducible exact atLast)
    | (with_reducible apply jCh)
    | (with_reducible apply jChK)
    | (with_reducible apply jExpr)
    | (with_reducible exact oSub)
    | (with_reducible exact insNil)
    | ((with_reducible refine insLt ?_); omega)
    | ((with_reducible refine insEq ?_); omega)
    | (with_reducible exact eAsT)
    | (with_reducible exact eAsL)
    | (with_reducible exact kII)
    | (with_reducible exact kIB)
    | (with_reducible exact jGxN)
    | (with_reducible exact jGxM)
    | (with_reducible apply jGx)
    | (with_reducible apply jGxC)
    | (with_reducible apply jGxK)
    | (with_reducible exact oListT)
    | (with_reducible apply jLenT)
    | (with_reducible apply jLenL)
    | (with_reducible apply jLenR)
    | ((with_reducible refine oGtT ?_); omega)
    | ((with_reducible refine oGtF ?_); omega)
    | (with_reducible exact tyT)
    | (with_reducible exact kTT)
    | (with_reducible exact jKret)
    | (with_reducible exact jZN)
    | (with_reducible exact jZN2)
    | (with_reducible apply jZp)
    | (with_reducible apply jZC)
    | (with_reducible exact ssetN)
    | (with_reducible apply jSS)
    | ((with_reducible refine oGeT ?_); omega)
    | ((with_reducible refine oGeF ?_); omega)
    | (with_reducible exact asQT)
    | (with_reducible exact asQL)
    | (with_reducible apply jSlT)
    | ((with_reducible refine oDiv ?_); omega)
    | (with_reducible exact jFret)
    | (with_reducible exact iN1)
    | (with_reducible exact iN2)
    | (with_reducible exact iN3)
    | (with_reducible exact oTupL)
    | (with_reducible exact oTupT)
    | (with_reducible exact tyN)
    | (with_reducible exact tyB)
    | (with_reducible exact kIT)
    | (with_reducible exact kIL)
    | ((with_reducible refine oMaxL ?_); omega)
    | ((with_reducible refine oMaxR ?_); omega)
    | (show Int.toNat _ = _; (try simp only [List.length_cons, List.length_nil, Nat.zero_add, Nat.reduceAdd, Int.cast_ofNat_Int, Int.reduceToNat, Int.reduceSub, Int.toNat_natCast]); (try rfl); done)
    | (show List.length _ = _; (try simp only [List.length_cons, List.length_nil, List.length_append, List.cons_append, List.nil_append, Nat.zero_add, Nat.reduceAdd]); (try rfl); done)
    | (show Nat.ble _ _ = true; rfl)
    | (show atI _ _ = _; rfl)
    | (show one dAll _ _ = _; rfl)
    | (with_reducible rfl)
    | omega
    | with_reducible assumption)) (jSeq (jSet (jMake (jCons (jVar rfl) jNil) (ev_init s)) (jSetS (jSetS jSet0))) (jKnx (jRet (jCB (jCons (jLc (jSq (jVar rfl) rfl) (jWC (jWC jWN (jSetS (jSetS (jSetS (jSetS jSet0))))) (jSetS (jSetS (jSetS jSet0)))) (taken hs hf hg) rfl) jNil) oTupL))))) hS rfl
theorem ev_set0 (s : Int) (hS : Sok S = true) : F_settled_ticks K [.int s, .tup []] S = some (.tup [], S) := by
  refine gc_eq (R := [stM K s false .non]) (run_settled_ticks (K := K) rfl (by repeat' (first
    | (with_reducible exact jSet0)
    | (with_reducible apply jSetS)
    | ((with_reducible apply jVar); rfl)
    | (with_reducible apply jOp)
    | (with_reducible exact eC)
    | (with_reducible apply jCons)
    | (with_reducible exact jNil)
    | (with_reducible apply jSeq)
    | (with_reducible apply jKnx)
    | (with_reducible exact jSt0)
    | (with_reducible apply jStN)
    | (with_reducible apply jStC)
    | ((with_reducible refine jIteT ?hp ?_); case hp => rfl)
    | ((with_reducible refine jIteF ?hp ?_); case hp => exact Bool.false_ne_true)
    | ((with_reducible refine jIteF ?hp ?_); case hp => decide)
    | (with_reducible exact jApN)
    | (with_reducible apply jAppend)
    | (with_reducible apply jApC)
    | (with_reducible exact jGNl)
    | (with_reducible apply jGNm)
    | (with_reducible apply jIxT)
    | (with_reducible apply jIxL)
    | (with_reducible apply jIxR)
    | (with_reducible exact oAdd)
    | (with_reducible exact oTB)
    | (with_reducible apply jTst)
    | (with_reducible apply jIf)
    | (with_reducible apply jIfE)
    | (with_reducible apply jAnd)
    | (with_reducible apply jAndV)
    | (with_reducible apply jCall)
    | (with_reducible apply jSet)
    | (with_reducible exact cellEnd)
    | (with_reducible exact jForN)
    | (with_reducible apply jFor)
    | (with_reducible apply jForC)
    | (with_reducible apply jCB)
    | (with_reducible apply jFnx)
    | (with_reducible exact jSNil)
    | (with_reducible apply jGCs)
    | (with_reducible exact jRN)
    | (with_reducible apply jR1)
    | (with_reducible apply jR2)
    | (with_reducible apply jRS)
    | (with_reducible exact jRetKL)
    | (with_reducible apply jRet)
    | (with_reducible apply jRetF)
    | (with_reducible apply jRetKR)
    | (with_reducible exact oEqB)
    | ((with_reducible refine oEqT ?_); omega)
    | ((with_reducible refine oEqF ?_); omega)
    | (with_reducible exact jTruR0)
    | (with_reducible exact jTruR1)
    | (with_reducible apply jTru)
    | (with_reducible apply jLst)
    | (with_reducible apply jLstM)
    | (with_reducible apply jPar)
    | (with_reducible apply jPar3)
    | (with_reducible apply jPart)
    | (with_reducible apply jIsi)
    | ((with_reducible show atI _ _ = _); rfl)
    | ((with_reducible show Nat.ble _ _ = true); rfl)
    | ((with_reducible refine oMod ?_); omega)
    | (with_reducible apply jAddR)
    | (with_reducible apply jAddL)
    | (with_reducible apply jAddT)
    | ((with_reducible refine oLeT ?_); omega)
    | ((with_reducible refine oLeF ?_); omega)
    | (with_reducible exact jYes)
    | (with_reducible exact jAsN)
    | (with_reducible apply jAsg)
    | (with_reducible apply jAsC)
    | (with_reducible apply jSetLast)
    | (with_reducible apply jSetC)
    | (with_reducible exact jWN)
    | (with_reducible apply jWC)
    | (with_reducible exact jNo)
    | (with_reducible apply jNot)
    | (with_reducible apply jNotV)
    | (with_reducible exact setEnd)
    | (with_reducible exact tyI)
    | (with_reducible exact oIsN)
    | (with_reducible exact oIsNotN)
    | (with_reducible exact oIsNotTT)
    | ((with_reducible refine oMul ?_); omega)
    | ((with_reducible apply jInsGt); omega)
    | (with_reducible exact neT2)
    | (with_reducible exact oNeg)
    | (with_reducible exact oNeB)
    | (with_reducible exact oNeL0)
    | (with_reducible exact oNeL1)
    | (with_reducible exact oNeL2)
    | (with_reducible exact oNeR0)
    | ((with_reducible refine oNeT ?_); omega)
    | ((with_reducible refine oNeF ?_); omega)
    | ((with_reducible refine jNeRT ?_); rfl)
    | (with_reducible apply jSq)
    | (with_reducible apply jSqF)
    | (with_reducible apply jUn)
    | (with_reducible exact jMpN)
    | (with_reducible apply jMpC)
    | (with_reducible apply jGTp)
    | ((with_reducible refine oLtT ?_); omega)
    | ((with_reducible refine oLtF ?_); omega)
    | (with_reducible apply jTup)
    | (with_reducible exact oIntI)
    | (with_reducible apply jOr)
    | (with_reducible apply jOrV)
    | (with_reducible exact jLcN)
    | (with_reducible exact jLc2N)
    | (with_reducible apply jLc)
    | (with_reducible apply jLcC)
    | (with_reducible apply jLcK)
    | (with_reducible apply jLc2)
    | (with_reducible apply jLc2C)
    | (with_reducible exact atLast)
    | (with_reducible apply jCh)
    | (with_reducible apply jChK)
    | (with_reducible apply jExpr)
    | (with_reducible exact oSub)
    | (with_reducible exact insNil)
    | ((with_reducible refine insLt ?_); omega)
    | ((with_reducible refine insEq ?_); omega)
    | (with_reducible exact eAsT)
    | (with_reducible exact eAsL)
    | (with_reducible exact kII)
    | (with_reducible exact kIB)
    | (with_reducible exact jGxN)
    | (with_reducible exact jGxM)
    | (with_reducible apply jGx)
    | (with_reducible apply jGxC)
    | (with_reducible apply jGxK)
    | (with_reducible exact oListT)
    | (with_reducible apply jLenT)
    | (with_reducible apply jLenL)
    | (with_reducible apply jLenR)
    | ((with_reducible refine oGtT ?_); omega)
    | ((with_reducible refine oGtF ?_); omega)
    | (with_reducible exact tyT)
    | (with_reducible exact kTT)
    | (with_reducible exact jKret)
    | (with_reducible exact jZN)
    | (with_reducible exact jZN2)
    | (with_reducible apply jZp)
    | (with_reducible apply jZC)
    | (with_reducible exact ssetN)
    | (with_reducible apply jSS)
    | ((with_reducible refine oGeT ?_); omega)
    | ((with_reducible refine oGeF ?_); omega)
    | (with_reducible exact asQT)
    | (with_reducible exact asQL)
    | (with_reducible apply jSlT)
    | ((with_reducible refine oDiv ?_); omega)
    | (with_reducible exact jFret)
    | (with_reducible exact iN1)
    | (with_reducible exact iN2)
    | (with_reducible exact iN3)
    | (with_reducible exact oTupL)
    | (with_reducible exact oTupT)
    | (with_reducible exact tyN)
    | (with_reducible exact tyB)
    | (with_reducible exact kIT)
    | (with_reducible exact kIL)
    | ((with_reducible refine oMaxL ?_); omega)
    | ((with_reducible refine oMaxR ?_); omega)
    | (show Int.toNat _ = _; (try simp only [List.length_cons, List.length_nil, Nat.zero_add, Nat.reduceAdd, Int.cast_ofNat_Int, Int.reduceToNat, Int.reduceSub, Int.toNat_natCast]); (try rfl); done)
    | (show List.length _ = _; (try simp only [List.length_cons, List.length_nil, List.length_append, List.cons_append, List.nil_append, Nat.zero_add, Nat.reduceAdd]); (try rfl); done)
    | (show Nat.ble _ _ = true; rfl)
    | (show atI _ _ = _; rfl)
    | (show one dAll _ _ = _; rfl)
    | (with_reducible rfl)
    | omega
    | with_reducible assumption)) (jSeq (jSet (jMake (jCons (jVar rfl) jNil) (ev_init s)) (jSetS (jSetS jSet0))) (jKnx (jRet (jCB (jCons (jLc (jSq (jVar rfl) rfl) (jWC (jWC jWN (jSetS (jSetS (jSetS (jSetS jSet0))))) (jSetS (jSetS (jSetS jSet0)))) jLcN rfl) jNil) oTupL))))) hS rfl
theorem ev_foA (b n q s f g : Int) (h : 0 < s ∧ s + 1 ≤ n ∧ n ≤ 1000 ∧ s + 1 < 3000 ∧ 0 < f ∧ f < 3000 ∧ g = f + s + 1 ∧ g ≤ 2500) (hS : Sok S = true) : F__law_is_fooled K [.tup [.int b, .int n, .int q], .int s, .tup [.tup [], .tup [.int f, .int g]]] S = some (.bl true, S) := by
  have e1 := ev_nums0 S
  have e2 := ev_nums2 f g 400 S (by omega)
  have e3 := ev_farA f g b n q S (by omega) hS
  have e4 := ev_sigA f g S (by omega)
  have e5 := ev_fitsA f g b n q S (by omega) hS
  have e6 := ev_turnA f g s S (by omega)
  have e7 := ev_setA (K := K) (S := S) f g s (by omega) (by omega) (by omega) (by omega) hS
  have e8 : dNe S (.lst (rng 0 (g + s + 1).toNat)) (.lst []) = some (.bl true) := neRng (by omega)
  have e9 : Nat.ble (rowsU f g (g + s + 1).toNat 0).length 16777216 = true := by
    rw [rowsU_length]
    exact Nat.ble_eq_true_of_le (by omega)
  repeat' (first
    | (with_reducible exact e1)
    | (with_reducible exact e2)
    | (with_reducible exact e3)
    | (with_reducible exact e4)
    | (with_reducible exact e5)
    | (with_reducible exact e6)
    | (with_reducible exact e7)
    | (with_reducible exact e8)
    | (with_reducible exact e9)
    | (with_reducible exact eqT2)
    | (with_reducible exact atm2)
    | (with_reducible exact lc_rows _ _ _ _ _)
    | (with_reducible apply jLRg)
    | (with_reducible apply run__law_is_fooled)
    | (with_reducible exact jSet0)
    | (with_reducible apply jSetS)
    | ((with_reducible apply jVar); rfl)
    | (with_reducible apply jOp)
    | (with_reducible exact eC)
    | (with_reducible apply jCons)
    | (with_reducible exact jNil)
    | (with_reducible apply jSeq)
    | (with_reducible apply jKnx)
    | (with_reducible exact jSt0)
    | (with_reducible apply jStN)
    | (with_reducible apply jStC)
    | ((with_reducible refine jIteT ?hp ?_); case hp => rfl)
    | ((with_reducible refine jIteF ?hp ?_); case hp => exact Bool.false_ne_true)
    | ((with_reducible refine jIteF ?hp ?_); case hp => decide)
    | (with_reducible exact jApN)
    | (with_reducible apply jAppend)
    | (with_reducible apply jApC)
    | (with_reducible exact jGNl)
    | (with_reducible apply jGNm)
    | (with_reducible apply jIxT)
    | (with_reducible apply jIxL)
    | (with_reducible apply jIxR)
    | (with_reducible exact oAdd)
    | (with_reducible exact oTB)
    | (with_reducible apply jTst)
    | (with_reducible apply jIf)
    | (with_reducible apply jIfE)
    | (with_reducible apply jAnd)
    | (with_reducible apply jAndV)
    | (with_reducible apply jCall)
    | (with_reducible apply jSet)
    | (with_reducible exact cellEnd)
    | (with_reducible exact jForN)
    | (with_reducible apply jFor)
    | (with_reducible apply jForC)
    | (with_reducible apply jCB)
    | (with_reducible apply jFnx)
    | (with_reducible exact jSNil)
    | (with_reducible apply jGCs)
    | (with_reducible exact jRN)
    | (with_reducible apply jR1)
    | (with_reducible apply jR2)
    | (with_reducible apply jRS)
    | (with_reducible exact jRetKL)
    | (with_reducible apply jRet)
    | (with_reducible apply jRetF)
    | (with_reducible apply jRetKR)
    | (with_reducible exact oEqB)
    | ((with_reducible refine oEqT ?_); omega)
    | ((with_reducible refine oEqF ?_); omega)
    | (with_reducible exact jTruR0)
    | (with_reducible exact jTruR1)
    | (with_reducible apply jTru)
    | (with_reducible apply jLst)
    | (with_reducible apply jLstM)
    | (with_reducible apply jPar)
    | (with_reducible apply jPar3)
    | (with_reducible apply jPart)
    | (with_reducible apply jIsi)
    | ((with_reducible show atI _ _ = _); rfl)
    | ((with_reducible show Nat.ble _ _ = true); rfl)
    | ((with_reducible refine oMod ?_); omega)
    | (with_reducible apply jAddR)
    | (with_reducible apply jAddL)
    | (with_reducible apply jAddT)
    | ((with_reducible refine oLeT ?_); omega)
    | ((with_reducible refine oLeF ?_); omega)
    | (with_reducible exact jYes)
    | (with_reducible exact jAsN)
    | (with_reducible apply jAsg)
    | (with_reducible apply jAsC)
    | (with_reducible apply jSetLast)
    | (with_reducible apply jSetC)
    | (with_reducible exact jWN)
    | (with_reducible apply jWC)
    | (with_reducible exact jNo)
    | (with_reducible apply jNot)
    | (with_reducible apply jNotV)
    | (with_reducible exact setEnd)
    | (with_reducible exact tyI)
    | (with_reducible exact oIsN)
    | (with_reducible exact oIsNotN)
    | (with_reducible exact oIsNotTT)
    | ((with_reducible refine oMul ?_); omega)
    | ((with_reducible apply jInsGt); omega)
    | (with_reducible exact neT2)
    | (with_reducible exact oNeg)
    | (with_reducible exact oNeB)
    | (with_reducible exact oNeL0)
    | (with_reducible exact oNeL1)
    | (with_reducible exact oNeL2)
    | (with_reducible exact oNeR0)
    | ((with_reducible refine oNeT ?_); omega)
    | ((with_reducible refine oNeF ?_); omega)
    | ((with_reducible refine jNeRT ?_); rfl)
    | (with_reducible apply jSq)
    | (with_reducible apply jSqF)
    | (with_reducible apply jUn)
    | (with_reducible exact jMpN)
    | (with_reducible apply jMpC)
    | (with_reducible apply jGTp)
    | ((with_reducible refine oLtT ?_); omega)
    | ((with_reducible refine oLtF ?_); omega)
    | (with_reducible apply jTup)
    | (with_reducible exact oIntI)
    | (with_reducible apply jOr)
    | (with_reducible apply jOrV)
    | (with_reducible exact jLcN)
    | (with_reducible exact jLc2N)
    | (with_reducible apply jLc)
    | (with_reducible apply jLcC)
    | (with_reducible apply jLcK)
    | (with_reducible apply jLc2)
    | (with_reducible apply jLc2C)
    | (with_reducible exact atLast)
    | (with_reducible apply jCh)
    | (with_reducible apply jChK)
    | (with_reducible apply jExpr)
    | (with_reducible exact oSub)
    | (with_reducible exact insNil)
    | ((with_reducible refine insLt ?_); omega)
    | ((with_reducible refine insEq ?_); omega)
    | (with_reducible exact eAsT)
    | (with_reducible exact eAsL)
    | (with_reducible exact kII)
    | (with_reducible exact kIB)
    | (with_reducible exact jGxN)
    | (with_reducible exact jGxM)
    | (with_reducible apply jGx)
    | (with_reducible apply jGxC)
    | (with_reducible apply jGxK)
    | (with_reducible exact oListT)
    | (with_reducible apply jLenT)
    | (with_reducible apply jLenL)
    | (with_reducible apply jLenR)
    | ((with_reducible refine oGtT ?_); omega)
    | ((with_reducible refine oGtF ?_); omega)
    | (with_reducible exact tyT)
    | (with_reducible exact kTT)
    | (with_reducible exact jKret)
    | (with_reducible exact jZN)
    | (with_reducible exact jZN2)
    | (with_reducible apply jZp)
    | (with_reducible apply jZC)
    | (with_reducible exact ssetN)
    | (with_reducible apply jSS)
    | ((with_reducible refine oGeT ?_); omega)
    | ((with_reducible refine oGeF ?_); omega)
    | (with_reducible exact asQT)
    | (with_reducible exact asQL)
    | (with_reducible apply jSlT)
    | ((with_reducible refine oDiv ?_); omega)
    | (with_reducible exact jFret)
    | (with_reducible exact iN1)
    | (with_reducible exact iN2)
    | (with_reducible exact iN3)
    | (with_reducible exact oTupL)
    | (with_reducible exact oTupT)
    | (with_reducible exact tyN)
    | (with_reducible exact tyB)
    | (with_reducible exact kIT)
    | (with_reducible exact kIL)
    | ((with_reducible refine oMaxL ?_); omega)
    | ((with_reducible refine oMaxR ?_); omega)
    | (show Int.toNat _ = _; (try simp only [List.length_cons, List.length_nil, Nat.zero_add, Nat.reduceAdd, Int.cast_ofNat_Int, Int.reduceToNat, Int.reduceSub, Int.toNat_natCast]); (try rfl); done)
    | (show List.length _ = _; (try simp only [List.length_cons, List.length_nil, List.length_append, List.cons_append, List.nil_append, Nat.zero_add, Nat.reduceAdd]); (try rfl); done)
    | (show Nat.ble _ _ = true; rfl)
    | (show atI _ _ = _; rfl)
    | (show one dAll _ _ = _; rfl)
    | (with_reducible rfl)
    | omega
    | with_reducible assumption)
theorem ev_foB (b n q s f g h i : Int) (hh : 0 < s ∧ 0 < f ∧ f < 3000 ∧ b ≤ 1000 ∧ h = f + s + 1 ∧ i = f + 2 * s + 2 ∧ 2 * s + 2 ≤ b ∧ g = f + 8000) (hS : Sok S = true) : F__law_is_fooled K [.tup [.int b, .int n, .int q], .int s, .tup [.tup [.int f, .int g], .tup [.int f, .int h, .int i, .int g]]] S = some (.bl true, S) := by
  have e1 := ev_nums2 f g 2 S (by omega)
  have e2 := ev_nums4 f h i g S (by omega)
  have e3 := ev_farB f g h i b n q S (by omega) hS
  have e4 := ev_sigB f h i g S (by omega)
  have e5 := ev_fitsB f g h i b n q S (by omega) hS
  have e6 := ev_turnB f g h i s S (by omega)
  have e7 := ev_set0 (K := K) (S := S) s hS
  repeat' (first
    | (with_reducible exact e1)
    | (with_reducible exact e2)
    | (with_reducible exact e3)
    | (with_reducible exact e4)
    | (with_reducible exact e5)
    | (with_reducible exact e6)
    | (with_reducible exact e7)
    | (with_reducible exact eqT4)
    | (with_reducible exact atm4)
    | (with_reducible apply jLRg)
    | (with_reducible apply run__law_is_fooled)
    | (with_reducible exact jSet0)
    | (with_reducible apply jSetS)
    | ((with_reducible apply jVar); rfl)
    | (with_reducible apply jOp)
    | (with_reducible exact eC)
    | (with_reducible apply jCons)
    | (with_reducible exact jNil)
    | (with_reducible apply jSeq)
    | (with_reducible apply jKnx)
    | (with_reducible exact jSt0)
    | (with_reducible apply jStN)
    | (with_reducible apply jStC)
    | ((with_reducible refine jIteT ?hp ?_); case hp => rfl)
    | ((with_reducible refine jIteF ?hp ?_); case hp => exact Bool.false_ne_true)
    | ((with_reducible refine jIteF ?hp ?_); case hp => decide)
    | (with_reducible exact jApN)
    | (with_reducible apply jAppend)
    | (with_reducible apply jApC)
    | (with_reducible exact jGNl)
    | (with_reducible apply jGNm)
    | (with_reducible apply jIxT)
    | (with_reducible apply jIxL)
    | (with_reducible apply jIxR)
    | (with_reducible exact oAdd)
    | (with_reducible exact oTB)
    | (with_reducible apply jTst)
    | (with_reducible apply jIf)
    | (with_reducible apply jIfE)
    | (with_reducible apply jAnd)
    | (with_reducible apply jAndV)
    | (with_reducible apply jCall)
    | (with_reducible apply jSet)
    | (with_reducible exact cellEnd)
    | (with_reducible exact jForN)
    | (with_reducible apply jFor)
    | (with_reducible apply jForC)
    | (with_reducible apply jCB)
    | (with_reducible apply jFnx)
    | (with_reducible exact jSNil)
    | (with_reducible apply jGCs)
    | (with_reducible exact jRN)
    | (with_reducible apply jR1)
    | (with_reducible apply jR2)
    | (with_reducible apply jRS)
    | (with_reducible exact jRetKL)
    | (with_reducible apply jRet)
    | (with_reducible apply jRetF)
    | (with_reducible apply jRetKR)
    | (with_reducible exact oEqB)
    | ((with_reducible refine oEqT ?_); omega)
    | ((with_reducible refine oEqF ?_); omega)
    | (with_reducible exact jTruR0)
    | (with_reducible exact jTruR1)
    | (with_reducible apply jTru)
    | (with_reducible apply jLst)
    | (with_reducible apply jLstM)
    | (with_reducible apply jPar)
    | (with_reducible apply jPar3)
    | (with_reducible apply jPart)
    | (with_reducible apply jIsi)
    | ((with_reducible show atI _ _ = _); rfl)
    | ((with_reducible show Nat.ble _ _ = true); rfl)
    | ((with_reducible refine oMod ?_); omega)
    | (with_reducible apply jAddR)
    | (with_reducible apply jAddL)
    | (with_reducible apply jAddT)
    | ((with_reducible refine oLeT ?_); omega)
    | ((with_reducible refine oLeF ?_); omega)
    | (with_reducible exact jYes)
    | (with_reducible exact jAsN)
    | (with_reducible apply jAsg)
    | (with_reducible apply jAsC)
    | (with_reducible apply jSetLast)
    | (with_reducible apply jSetC)
    | (with_reducible exact jWN)
    | (with_reducible apply jWC)
    | (with_reducible exact jNo)
    | (with_reducible apply jNot)
    | (with_reducible apply jNotV)
    | (with_reducible exact setEnd)
    | (with_reducible exact tyI)
    | (with_reducible exact oIsN)
    | (with_reducible exact oIsNotN)
    | (with_reducible exact oIsNotTT)
    | ((with_reducible refine oMul ?_); omega)
    | ((with_reducible apply jInsGt); omega)
    | (with_reducible exact neT2)
    | (with_reducible exact oNeg)
    | (with_reducible exact oNeB)
    | (with_reducible exact oNeL0)
    | (with_reducible exact oNeL1)
    | (with_reducible exact oNeL2)
    | (with_reducible exact oNeR0)
    | ((with_reducible refine oNeT ?_); omega)
    | ((with_reducible refine oNeF ?_); omega)
    | ((with_reducible refine jNeRT ?_); rfl)
    | (with_reducible apply jSq)
    | (with_reducible apply jSqF)
    | (with_reducible apply jUn)
    | (with_reducible exact jMpN)
    | (with_reducible apply jMpC)
    | (with_reducible apply jGTp)
    | ((with_reducible refine oLtT ?_); omega)
    | ((with_reducible refine oLtF ?_); omega)
    | (with_reducible apply jTup)
    | (with_reducible exact oIntI)
    | (with_reducible apply jOr)
    | (with_reducible apply jOrV)
    | (with_reducible exact jLcN)
    | (with_reducible exact jLc2N)
    | (with_reducible apply jLc)
    | (with_reducible apply jLcC)
    | (with_reducible apply jLcK)
    | (with_reducible apply jLc2)
    | (with_reducible apply jLc2C)
    | (with_reducible exact atLast)
    | (with_reducible apply jCh)
    | (with_reducible apply jChK)
    | (with_reducible apply jExpr)
    | (with_reducible exact oSub)
    | (with_reducible exact insNil)
    | ((with_reducible refine insLt ?_); omega)
    | ((with_reducible refine insEq ?_); omega)
    | (with_reducible exact eAsT)
    | (with_reducible exact eAsL)
    | (with_reducible exact kII)
    | (with_reducible exact kIB)
    | (with_reducible exact jGxN)
    | (with_reducible exact jGxM)
    | (with_reducible apply jGx)
    | (with_reducible apply jGxC)
    | (with_reducible apply jGxK)
    | (with_reducible exact oListT)
    | (with_reducible apply jLenT)
    | (with_reducible apply jLenL)
    | (with_reducible apply jLenR)
    | ((with_reducible refine oGtT ?_); omega)
    | ((with_reducible refine oGtF ?_); omega)
    | (with_reducible exact tyT)
    | (with_reducible exact kTT)
    | (with_reducible exact jKret)
    | (with_reducible exact jZN)
    | (with_reducible exact jZN2)
    | (with_reducible apply jZp)
    | (with_reducible apply jZC)
    | (with_reducible exact ssetN)
    | (with_reducible apply jSS)
    | ((with_reducible refine oGeT ?_); omega)
    | ((with_reducible refine oGeF ?_); omega)
    | (with_reducible exact asQT)
    | (with_reducible exact asQL)
    | (with_reducible apply jSlT)
    | ((with_reducible refine oDiv ?_); omega)
    | (with_reducible exact jFret)
    | (with_reducible exact iN1)
    | (with_reducible exact iN2)
    | (with_reducible exact iN3)
    | (with_reducible exact oTupL)
    | (with_reducible exact oTupT)
    | (with_reducible exact tyN)
    | (with_reducible exact tyB)
    | (with_reducible exact kIT)
    | (with_reducible exact kIL)
    | ((with_reducible refine oMaxL ?_); omega)
    | ((with_reducible refine oMaxR ?_); omega)
    | (show Int.toNat _ = _; (try simp only [List.length_cons, List.length_nil, Nat.zero_add, Nat.reduceAdd, Int.cast_ofNat_Int, Int.reduceToNat, Int.reduceSub, Int.toNat_natCast]); (try rfl); done)
    | (show List.length _ = _; (try simp only [List.length_cons, List.length_nil, List.length_append, List.cons_append, List.nil_append, Nat.zero_add, Nat.reduceAdd]); (try rfl); done)
    | (show Nat.ble _ _ = true; rfl)
    | (show atI _ _ = _; rfl)
    | (show one dAll _ _ = _; rfl)
    | (with_reducible rfl)
    | omega
    | with_reducible assumption)
end
end K51

namespace K51
open PySem PySem.Spec PyProof.Rows L2 DL
theorem belows_ints (n : Nat) : ∀ l : List Int, dBelows n (l.map D.int) = true
  | [] => by simp [dBelows]
  | a :: r => by rw [List.map_cons]; unfold dBelows; rw [belows_ints n r]; rfl
theorem SokB (cells : List Int) (v c : Int) : Sok (BX cells v c) = true := by
  unfold Sok BX
  simp [cBelow, belows_ints, dBelows, dBelow]
section
variable {K : PySem.W.Frag}
/-- the end of a turn -/
def tailS (K : PySem.W.Frag) : FS := (sSeq (sPar 8 9 (fCB (two dMax2) (fCons (fC (.int 1)) (fCons (fVar 7) fNil))) (fTup (fCons (fVar 4) (fCons (fVar 5) (fCons (fVar 6) fNil)))))
  (sSeq (sSet 10 (fCall F_fooling_signal (fCons (fVar 9) (fCons (fVar 8) fNil))))
  (sIf (fAnd (fTst (fOp dGe (fVar 8) (fVar 5))) (fTst (fOp dGt (fOp dAdd (fOp dMul (fC (.int 2)) (fVar 8)) (fC (.int 2))) (fVar 4)))) (sIf (fTst (fOp dIsNot (fVar 10) (fC .non))) (sRet (fC (.bl false))) sNil) (sIf (fNot (fTru (fCall (F__law_is_fooled K) (fCons (fVar 9) (fCons (fVar 8) (fCons (fVar 10) fNil)))))) (sRet (fC (.bl false))) sNil))))
theorem tail_s {S : Store} (hS : Sok S = true) {a0 a1 a2 a3 z8 z9 z10 : Option D} (b n q y s : Int) (hb : 1 ≤ b ∧ b ≤ 1000) (hn : 0 ≤ n ∧ n ≤ 1000) (hq : 1 ≤ q ∧ q ≤ 1000) (hy : -1 ≤ y ∧ y ≤ 1000) (hs : 1 ≤ s ∧ s ≤ 1000) (hm : two dMax2 S [.int 1, .int y] = some (.int s)) :
    ∃ w8 w9 w10, tailS K [a0, a1, a2, a3, some (.int b), some (.int n), some (.int q), some (.int y), z8, z9, z10] S = some (.nx, [a0, a1, a2, a3, some (.int b), some (.int n), some (.int q), some (.int y), w8, w9, w10], S) := by
  by_cases h1 : n ≤ s
  · by_cases h2 : b < 2 * s + 2
    · have e1 := ev_foolN b n q s (by omega) S h1 h2
      exact ⟨_, _, _, (by
        unfold tailS
        repeat' (first
    | (with_reducible exact hm)
    | (with_reducible exact e1)
    | (with_reducible exact jSet0)
    | (with_reducible apply jSetS)
    | ((with_reducible apply jVar); rfl)
    | (with_reducible apply jOp)
    | (with_reducible exact eC)
    | (with_reducible apply jCons)
    | (with_reducible exact jNil)
    | (with_reducible apply jSeq)
    | (with_reducible apply jKnx)
    | (with_reducible exact jSt0)
    | (with_reducible apply jStN)
    | (with_reducible apply jStC)
    | ((with_reducible refine jIteT ?hp ?_); case hp => rfl)
    | ((with_reducible refine jIteF ?hp ?_); case hp => exact Bool.false_ne_true)
    | ((with_reducible refine jIteF ?hp ?_); case hp => decide)
    | (with_reducible exact jApN)
    | (with_reducible apply jAppend)
    | (with_reducible apply jApC)
    | (with_reducible exact jGNl)
    | (with_reducible apply jGNm)
    | (with_reducible apply jIxT)
    | (with_reducible apply jIxL)
    | (with_reducible apply jIxR)
    | (with_reducible exact oAdd)
    | (with_reducible exact oTB)
    | (with_reducible apply jTst)
    | (with_reducible apply jIf)
    | (with_reducible apply jIfE)
    | (with_reducible apply jAnd)
    | (with_reducible apply jAndV)
    | (with_reducible apply jCall)
    | (with_reducible apply jSet)
    | (with_reducible exact cellEnd)
    | (with_reducible exact jForN)
    | (with_reducible apply jFor)
    | (with_reducible apply jForC)
    | (with_reducible apply jCB)
    | (with_reducible apply jFnx)
    | (with_reducible exact jSNil)
    | (with_reducible apply jGCs)
    | (with_reducible exact jRN)
    | (with_reducible apply jR1)
    | (with_reducible apply jR2)
    | (with_reducible apply jRS)
    | (with_reducible exact jRetKL)
    | (with_reducible apply jRet)
    | (with_reducible apply jRetF)
    | (with_reducible apply jRetKR)
    | (with_reducible exact oEqB)
    | ((with_reducible refine oEqT ?_); omega)
    | ((with_reducible refine oEqF ?_); omega)
    | (with_reducible exact jTruR0)
    | (with_reducible exact jTruR1)
    | (with_reducible apply jTru)
    | (with_reducible apply jLst)
    | (with_reducible apply jLstM)
    | (with_reducible apply jPar)
    | (with_reducible apply jPar3)
    | (with_reducible apply jPart)
    | (with_reducible apply jIsi)
    | ((with_reducible show atI _ _ = _); rfl)
    | ((with_reducible show Nat.ble _ _ = true); rfl)
    | ((with_reducible refine oMod ?_); omega)
    | (with_reducible apply jAddR)
    | (with_reducible apply jAddL)
    | (with_reducible apply jAddT)
    | ((with_reducible refine oLeT ?_); omega)
    | ((with_reducible refine oLeF ?_); omega)
    | (with_reducible exact jYes)
    | (with_reducible exact jAsN)
    | (with_reducible apply jAsg)
    | (with_reducible apply jAsC)
    | (with_reducible apply jSetLast)
    | (with_reducible apply jSetC)
    | (with_reducible exact jWN)
    | (with_reducible apply jWC)
    | (with_reducible exact jNo)
    | (with_reducible apply jNot)
    | (with_reducible apply jNotV)
    | (with_reducible exact setEnd)
    | (with_reducible exact tyI)
    | (with_reducible exact oIsN)
    | (with_reducible exact oIsNotN)
    | (with_reducible exact oIsNotTT)
    | ((with_reducible refine oMul ?_); omega)
    | ((with_reducible apply jInsGt); omega)
    | (with_reducible exact neT2)
    | (with_reducible exact oNeg)
    | (with_reducible exact oNeB)
    | (with_reducible exact oNeL0)
    | (with_reducible exact oNeL1)
    | (with_reducible exact oNeL2)
    | (with_reducible exact oNeR0)
    | ((with_reducible refine oNeT ?_); omega)
    | ((with_reducible refine oNeF ?_); omega)
    | ((with_reducible refine jNeRT ?_); rfl)
    | (with_reducible apply jSq)
    | (with_reducible apply jSqF)
    | (with_reducible apply jUn)
    | (with_reducible exact jMpN)
    | (with_reducible apply jMpC)
    | (with_reducible apply jGTp)
    | ((with_reducible refine oLtT ?_); omega)
    | ((with_reducible refine oLtF ?_); omega)
    | (with_reducible apply jTup)
    | (with_reducible exact oIntI)
    | (with_reducible apply jOr)
    | (with_reducible apply jOrV)
    | (with_reducible exact jLcN)
    | (with_reducible exact jLc2N)
    | (with_reducible apply jLc)
    | (with_reducible apply jLcC)
    | (with_reducible apply jLcK)
    | (with_reducible apply jLc2)
    | (with_reducible apply jLc2C)
    | (with_reducible exact atLast)
    | (with_reducible apply jCh)
    | (with_reducible apply jChK)
    | (with_reducible apply jExpr)
    | (with_reducible exact oSub)
    | (with_reducible exact insNil)
    | ((with_reducible refine insLt ?_); omega)
    | ((with_reducible refine insEq ?_); omega)
    | (with_reducible exact eAsT)
    | (with_reducible exact eAsL)
    | (with_reducible exact kII)
    | (with_reducible exact kIB)
    | (with_reducible exact jGxN)
    | (with_reducible exact jGxM)
    | (with_reducible apply jGx)
    | (with_reducible apply jGxC)
    | (with_reducible apply jGxK)
    | (with_reducible exact oListT)
    | (with_reducible apply jLenT)
    | (with_reducible apply jLenL)
    | (with_reducible apply jLenR)
    | ((with_reducible refine oGtT ?_); omega)
    | ((with_reducible refine oGtF ?_); omega)
    | (with_reducible exact tyT)
    | (with_reducible exact kTT)
    | (with_reducible exact jKret)
    | (with_reducible exact jZN)
    | (with_reducible exact jZN2)
    | (with_reducible apply jZp)
    | (with_reducible apply jZC)
    | (with_reducible exact ssetN)
    | (with_reducible apply jSS)
    | ((with_reducible refine oGeT ?_); omega)
    | ((with_reducible refine oGeF ?_); omega)
    | (with_reducible exact asQT)
    | (with_reducible exact asQL)
    | (with_reducible apply jSlT)
    | ((with_reducible refine oDiv ?_); omega)
    | (with_reducible exact jFret)
    | (with_reducible exact iN1)
    | (with_reducible exact iN2)
    | (with_reducible exact iN3)
    | (with_reducible exact oTupL)
    | (with_reducible exact oTupT)
    | (with_reducible exact tyN)
    | (with_reducible exact tyB)
    | (with_reducible exact kIT)
    | (with_reducible exact kIL)
    | ((with_reducible refine oMaxL ?_); omega)
    | ((with_reducible refine oMaxR ?_); omega)
    | (show Int.toNat _ = _; (try simp only [List.length_cons, List.length_nil, Nat.zero_add, Nat.reduceAdd, Int.cast_ofNat_Int, Int.reduceToNat, Int.reduceSub, Int.toNat_natCast]); (try rfl); done)
    | (show List.length _ = _; (try simp only [List.length_cons, List.length_nil, List.length_append, List.cons_append, List.nil_append, Nat.zero_add, Nat.reduceAdd]); (try rfl); done)
    | (show Nat.ble _ _ = true; rfl)
    | (show atI _ _ = _; rfl)
    | (show one dAll _ _ = _; rfl)
    | (with_reducible rfl)
    | omega
    | with_reducible assumption))⟩
    · have e1 := ev_foolB b n q s (by omega) S h1 (by omega)
      have e2 := ev_foB (K := K) (S := S) b n q s (q + 1) (q + 1 + 2 * 4000) (q + 1 + s + 1) (q + 1 + 2 * s + 2) (by omega) hS
      exact ⟨_, _, _, (by
        unfold tailS
        repeat' (first
    | (with_reducible exact hm)
    | (with_reducible exact e1)
    | (with_reducible exact e2)
    | (with_reducible exact jSet0)
    | (with_reducible apply jSetS)
    | ((with_reducible apply jVar); rfl)
    | (with_reducible apply jOp)
    | (with_reducible exact eC)
    | (with_reducible apply jCons)
    | (with_reducible exact jNil)
    | (with_reducible apply jSeq)
    | (with_reducible apply jKnx)
    | (with_reducible exact jSt0)
    | (with_reducible apply jStN)
    | (with_reducible apply jStC)
    | ((with_reducible refine jIteT ?hp ?_); case hp => rfl)
    | ((with_reducible refine jIteF ?hp ?_); case hp => exact Bool.false_ne_true)
    | ((with_reducible refine jIteF ?hp ?_); case hp => decide)
    | (with_reducible exact jApN)
    | (with_reducible apply jAppend)
    | (with_reducible apply jApC)
    | (with_reducible exact jGNl)
    | (with_reducible apply jGNm)
    | (with_reducible apply jIxT)
    | (with_reducible apply jIxL)
    | (with_reducible apply jIxR)
    | (with_reducible exact oAdd)
    | (with_reducible exact oTB)
    | (with_reducible apply jTst)
    | (with_reducible apply jIf)
    | (with_reducible apply jIfE)
    | (with_reducible apply jAnd)
    | (with_reducible apply jAndV)
    | (with_reducible apply jCall)
    | (with_reducible apply jSet)
    | (with_reducible exact cellEnd)
    | (with_reducible exact jForN)
    | (with_reducible apply jFor)
    | (with_reducible apply jForC)
    | (with_reducible apply jCB)
    | (with_reducible apply jFnx)
    | (with_reducible exact jSNil)
    | (with_reducible apply jGCs)
    | (with_reducible exact jRN)
    | (with_reducible apply jR1)
    | (with_reducible apply jR2)
    | (with_reducible apply jRS)
    | (with_reducible exact jRetKL)
    | (with_reducible apply jRet)
    | (with_reducible apply jRetF)
    | (with_reducible apply jRetKR)
    | (with_reducible exact oEqB)
    | ((with_reducible refine oEqT ?_); omega)
    | ((with_reducible refine oEqF ?_); omega)
    | (with_reducible exact jTruR0)
    | (with_reducible exact jTruR1)
    | (with_reducible apply jTru)
    | (with_reducible apply jLst)
    | (with_reducible apply jLstM)
    | (with_reducible apply jPar)
    | (with_reducible apply jPar3)
    | (with_reducible apply jPart)
    | (with_reducible apply jIsi)
    | ((with_reducible show atI _ _ = _); rfl)
    | ((with_reducible show Nat.ble _ _ = true); rfl)
    | ((with_reducible refine oMod ?_); omega)
    | (with_reducible apply jAddR)
    | (with_reducible apply jAddL)
    | (with_reducible apply jAddT)
    | ((with_reducible refine oLeT ?_); omega)
    | ((with_reducible refine oLeF ?_); omega)
    | (with_reducible exact jYes)
    | (with_reducible exact jAsN)
    | (with_reducible apply jAsg)
    | (with_reducible apply jAsC)
    | (with_reducible apply jSetLast)
    | (with_reducible apply jSetC)
    | (with_reducible exact jWN)
    | (with_reducible apply jWC)
    | (with_reducible exact jNo)
    | (with_reducible apply jNot)
    | (with_reducible apply jNotV)
    | (with_reducible exact setEnd)
    | (with_reducible exact tyI)
    | (with_reducible exact oIsN)
    | (with_reducible exact oIsNotN)
    | (with_reducible exact oIsNotTT)
    | ((with_reducible refine oMul ?_); omega)
    | ((with_reducible apply jInsGt); omega)
    | (with_reducible exact neT2)
    | (with_reducible exact oNeg)
    | (with_reducible exact oNeB)
    | (with_reducible exact oNeL0)
    | (with_reducible exact oNeL1)
    | (with_reducible exact oNeL2)
    | (with_reducible exact oNeR0)
    | ((with_reducible refine oNeT ?_); omega)
    | ((with_reducible refine oNeF ?_); omega)
    | ((with_reducible refine jNeRT ?_); rfl)
    | (with_reducible apply jSq)
    | (with_reducible apply jSqF)
    | (with_reducible apply jUn)
    | (with_reducible exact jMpN)
    | (with_reducible apply jMpC)
    | (with_reducible apply jGTp)
    | ((with_reducible refine oLtT ?_); omega)
    | ((with_reducible refine oLtF ?_); omega)
    | (with_reducible apply jTup)
    | (with_reducible exact oIntI)
    | (with_reducible apply jOr)
    | (with_reducible apply jOrV)
    | (with_reducible exact jLcN)
    | (with_reducible exact jLc2N)
    | (with_reducible apply jLc)
    | (with_reducible apply jLcC)
    | (with_reducible apply jLcK)
    | (with_reducible apply jLc2)
    | (with_reducible apply jLc2C)
    | (with_reducible exact atLast)
    | (with_reducible apply jCh)
    | (with_reducible apply jChK)
    | (with_reducible apply jExpr)
    | (with_reducible exact oSub)
    | (with_reducible exact insNil)
    | ((with_reducible refine insLt ?_); omega)
    | ((with_reducible refine insEq ?_); omega)
    | (with_reducible exact eAsT)
    | (with_reducible exact eAsL)
    | (with_reducible exact kII)
    | (with_reducible exact kIB)
    | (with_reducible exact jGxN)
    | (with_reducible exact jGxM)
    | (with_reducible apply jGx)
    | (with_reducible apply jGxC)
    | (with_reducible apply jGxK)
    | (with_reducible exact oListT)
    | (with_reducible apply jLenT)
    | (with_reducible apply jLenL)
    | (with_reducible apply jLenR)
    | ((with_reducible refine oGtT ?_); omega)
    | ((with_reducible refine oGtF ?_); omega)
    | (with_reducible exact tyT)
    | (with_reducible exact kTT)
    | (with_reducible exact jKret)
    | (with_reducible exact jZN)
    | (with_reducible exact jZN2)
    | (with_reducible apply jZp)
    | (with_reducible apply jZC)
    | (with_reducible exact ssetN)
    | (with_reducible apply jSS)
    | ((with_reducible refine oGeT ?_); omega)
    | ((with_reducible refine oGeF ?_); omega)
    | (with_reducible exact asQT)
    | (with_reducible exact asQL)
    | (with_reducible apply jSlT)
    | ((with_reducible refine oDiv ?_); omega)
    | (with_reducible exact jFret)
    | (with_reducible exact iN1)
    | (with_reducible exact iN2)
    | (with_reducible exact iN3)
    | (with_reducible exact oTupL)
    | (with_reducible exact oTupT)
    | (with_reducible exact tyN)
    | (with_reducible exact tyB)
    | (with_reducible exact kIT)
    | (with_reducible exact kIL)
    | ((with_reducible refine oMaxL ?_); omega)
    | ((with_reducible refine oMaxR ?_); omega)
    | (show Int.toNat _ = _; (try simp only [List.length_cons, List.length_nil, Nat.zero_add, Nat.reduceAdd, Int.cast_ofNat_Int, Int.reduceToNat, Int.reduceSub, Int.toNat_natCast]); (try rfl); done)
    | (show List.length _ = _; (try simp only [List.length_cons, List.length_nil, List.length_append, List.cons_append, List.nil_append, Nat.zero_add, Nat.reduceAdd]); (try rfl); done)
    | (show Nat.ble _ _ = true; rfl)
    | (show atI _ _ = _; rfl)
    | (show one dAll _ _ = _; rfl)
    | (with_reducible rfl)
    | omega
    | with_reducible assumption))⟩
  · have e1 := ev_foolA b n q s (by omega) S (by omega)
    have e2 := ev_foA (K := K) (S := S) b n q s (q + 1) (q + 1 + s + 1) (by omega) hS
    exact ⟨_, _, _, (by
      unfold tailS
      repeat' (first
    | (with_reducible exact hm)
    | (with_reducible exact e1)
    | (with_reducible exact e2)
    | (with_reducible exact jSet0)
    | (with_reducible apply jSetS)
    | ((with_reducible apply jVar); rfl)
    | (with_reducible apply jOp)
    | (with_reducible exact eC)
    | (with_reducible apply jCons)
    | (with_reducible exact jNil)
    | (with_reducible apply jSeq)
    | (with_reducible apply jKnx)
    | (with_reducible exact jSt0)
    | (with_reducible apply jStN)
    | (with_reducible apply jStC)
    | ((with_reducible refine jIteT ?hp ?_); case hp => rfl)
    | ((with_reducible refine jIteF ?hp ?_); case hp => exact Bool.false_ne_true)
    | ((with_reducible refine jIteF ?hp ?_); case hp => decide)
    | (with_reducible exact jApN)
    | (with_reducible apply jAppend)
    | (with_reducible apply jApC)
    | (with_reducible exact jGNl)
    | (with_reducible apply jGNm)
    | (with_reducible apply jIxT)
    | (with_reducible apply jIxL)
    | (with_reducible apply jIxR)
    | (with_reducible exact oAdd)
    | (with_reducible exact oTB)
    | (with_reducible apply jTst)
    | (with_reducible apply jIf)
    | (with_reducible apply jIfE)
    | (with_reducible apply jAnd)
    | (with_reducible apply jAndV)
    | (with_reducible apply jCall)
    | (with_reducible apply jSet)
    | (with_reducible exact cellEnd)
    | (with_reducible exact jForN)
    | (with_reducible apply jFor)
    | (with_reducible apply jForC)
    | (with_reducible apply jCB)
    | (with_reducible apply jFnx)
    | (with_reducible exact jSNil)
    | (with_reducible apply jGCs)
    | (with_reducible exact jRN)
    | (with_reducible apply jR1)
    | (with_reducible apply jR2)
    | (with_reducible apply jRS)
    | (with_reducible exact jRetKL)
    | (with_reducible apply jRet)
    | (with_reducible apply jRetF)
    | (with_reducible apply jRetKR)
    | (with_reducible exact oEqB)
    | ((with_reducible refine oEqT ?_); omega)
    | ((with_reducible refine oEqF ?_); omega)
    | (with_reducible exact jTruR0)
    | (with_reducible exact jTruR1)
    | (with_reducible apply jTru)
    | (with_reducible apply jLst)
    | (with_reducible apply jLstM)
    | (with_reducible apply jPar)
    | (with_reducible apply jPar3)
    | (with_reducible apply jPart)
    | (with_reducible apply jIsi)
    | ((with_reducible show atI _ _ = _); rfl)
    | ((with_reducible show Nat.ble _ _ = true); rfl)
    | ((with_reducible refine oMod ?_); omega)
    | (with_reducible apply jAddR)
    | (with_reducible apply jAddL)
    | (with_reducible apply jAddT)
    | ((with_reducible refine oLeT ?_); omega)
    | ((with_reducible refine oLeF ?_); omega)
    | (with_reducible exact jYes)
    | (with_reducible exact jAsN)
    | (with_reducible apply jAsg)
    | (with_reducible apply jAsC)
    | (with_reducible apply jSetLast)
    | (with_reducible apply jSetC)
    | (with_reducible exact jWN)
    | (with_reducible apply jWC)
    | (with_reducible exact jNo)
    | (with_reducible apply jNot)
    | (with_reducible apply jNotV)
    | (with_reducible exact setEnd)
    | (with_reducible exact tyI)
    | (with_reducible exact oIsN)
    | (with_reducible exact oIsNotN)
    | (with_reducible exact oIsNotTT)
    | ((with_reducible refine oMul ?_); omega)
    | ((with_reducible apply jInsGt); omega)
    | (with_reducible exact neT2)
    | (with_reducible exact oNeg)
    | (with_reducible exact oNeB)
    | (with_reducible exact oNeL0)
    | (with_reducible exact oNeL1)
    | (with_reducible exact oNeL2)
    | (with_reducible exact oNeR0)
    | ((with_reducible refine oNeT ?_); omega)
    | ((with_reducible refine oNeF ?_); omega)
    | ((with_reducible refine jNeRT ?_); rfl)
    | (with_reducible apply jSq)
    | (with_reducible apply jSqF)
    | (with_reducible apply jUn)
    | (with_reducible exact jMpN)
    | (with_reducible apply jMpC)
    | (with_reducible apply jGTp)
    | ((with_reducible refine oLtT ?_); omega)
    | ((with_reducible refine oLtF ?_); omega)
    | (with_reducible apply jTup)
    | (with_reducible exact oIntI)
    | (with_reducible apply jOr)
    | (with_reducible apply jOrV)
    | (with_reducible exact jLcN)
    | (with_reducible exact jLc2N)
    | (with_reducible apply jLc)
    | (with_reducible apply jLcC)
    | (with_reducible apply jLcK)
    | (with_reducible apply jLc2)
    | (with_reducible apply jLc2C)
    | (with_reducible exact atLast)
    | (with_reducible apply jCh)
    | (with_reducible apply jChK)
    | (with_reducible apply jExpr)
    | (with_reducible exact oSub)
    | (with_reducible exact insNil)
    | ((with_reducible refine insLt ?_); omega)
    | ((with_reducible refine insEq ?_); omega)
    | (with_reducible exact eAsT)
    | (with_reducible exact eAsL)
    | (with_reducible exact kII)
    | (with_reducible exact kIB)
    | (with_reducible exact jGxN)
    | (with_reducible exact jGxM)
    | (with_reducible apply jGx)
    | (with_reducible apply jGxC)
    | (with_reducible apply jGxK)
    | (with_reducible exact oListT)
    | (with_reducible apply jLenT)
    | (with_reducible apply jLenL)
    | (with_reducible apply jLenR)
    | ((with_reducible refine oGtT ?_); omega)
    | ((with_reducible refine oGtF ?_); omega)
    | (with_reducible exact tyT)
    | (with_reducible exact kTT)
    | (with_reducible exact jKret)
    | (with_reducible exact jZN)
    | (with_reducible exact jZN2)
    | (with_reducible apply jZp)
    | (with_reducible apply jZC)
    | (with_reducible exact ssetN)
    | (with_reducible apply jSS)
    | ((with_reducible refine oGeT ?_); omega)
    | ((with_reducible refine oGeF ?_); omega)
    | (with_reducible exact asQT)
    | (with_reducible exact asQL)
    | (with_reducible apply jSlT)
    | ((with_reducible refine oDiv ?_); omega)
    | (with_reducible exact jFret)
    | (with_reducible exact iN1)
    | (with_reducible exact iN2)
    | (with_reducible exact iN3)
    | (with_reducible exact oTupL)
    | (with_reducible exact oTupT)
    | (with_reducible exact tyN)
    | (with_reducible exact tyB)
    | (with_reducible exact kIT)
    | (with_reducible exact kIL)
    | ((with_reducible refine oMaxL ?_); omega)
    | ((with_reducible refine oMaxR ?_); omega)
    | (show Int.toNat _ = _; (try simp only [List.length_cons, List.length_nil, Nat.zero_add, Nat.reduceAdd, Int.cast_ofNat_Int, Int.reduceToNat, Int.reduceSub, Int.toNat_natCast]); (try rfl); done)
    | (show List.length _ = _; (try simp only [List.length_cons, List.length_nil, List.length_append, List.cons_append, List.nil_append, Nat.zero_add, Nat.reduceAdd]); (try rfl); done)
    | (show Nat.ble _ _ = true; rfl)
    | (show atI _ _ = _; rfl)
    | (show one dAll _ _ = _; rfl)
    | (with_reducible rfl)
    | omega
    | with_reducible assumption))⟩
theorem tail_ok {S : Store} (hS : Sok S = true) {a0 a1 a2 a3 z8 z9 z10 : Option D} (b n q y : Int) (hb : 1 ≤ b ∧ b ≤ 1000) (hn : 0 ≤ n ∧ n ≤ 1000) (hq : 1 ≤ q ∧ q ≤ 1000) (hy : -1 ≤ y ∧ y ≤ 1000) :
    ∃ w8 w9 w10, tailS K [a0, a1, a2, a3, some (.int b), some (.int n), some (.int q), some (.int y), z8, z9, z10] S = some (.nx, [a0, a1, a2, a3, some (.int b), some (.int n), some (.int q), some (.int y), w8, w9, w10], S) := by
  by_cases h : y ≤ 1
  · exact tail_s hS b n q y 1 hb hn hq hy (by omega) (oMaxL h)
  · exact tail_s hS b n q y y hb hn hq hy (by omega) (oMaxR (by omega))
/-- the body of the turns -/
def bodyS (K : PySem.W.Frag) : FS := (sSeq (sSet 3 (fOp dIx (fLst (fCons (fC (.int 8)) (fCons (fC (.int 60)) (fCons (fC (.int 1000)) (fCons (fC (.int 1000)) fNil))))) (fVar 2)))
  (sSeq (sPar3 4 5 6 (fOp dAdd (fC (.int 1)) (fCall F__law_draw (fCons (fVar 1) (fCons (fVar 3) fNil)))) (fCall F__law_draw (fCons (fVar 1) (fCons (fOp dAdd (fVar 3) (fC (.int 1))) fNil))) (fOp dAdd (fC (.int 1)) (fCall F__law_draw (fCons (fVar 1) (fCons (fVar 3) fNil)))))
  (sSeq (sSet 5 (fIfE (fTst (fOp dEq (fCall F__law_draw (fCons (fVar 1) (fCons (fC (.int 3)) fNil))) (fC (.int 0)))) (fC (.int 0)) (fVar 5)))
  (sSeq (sSet 7 (fOp dIx (fLst (fCons (fOp dSub (fVar 5) (fC (.int 1))) (fCons (fVar 5) (fCons (fOp dSub (fOp dFdiv (fVar 4) (fC (.int 2))) (fC (.int 1))) (fCons (fOp dFdiv (fVar 4) (fC (.int 2))) (fCons (fOp dAdd (fC (.int 1)) (fCall F__law_draw (fCons (fVar 1) (fCons (fVar 3) fNil)))) fNil)))))) (fCall F__law_draw (fCons (fVar 1) (fCons (fC (.int 5)) fNil)))))
  (tailS K)))))
theorem pick5 {x0 x1 x2 x3 x4 d : Int} (h : 0 ≤ d ∧ d < 5) (lo hi : Int) (h0 : lo ≤ x0 ∧ x0 ≤ hi) (h1 : lo ≤ x1 ∧ x1 ≤ hi) (h2 : lo ≤ x2 ∧ x2 ≤ hi) (h3 : lo ≤ x3 ∧ x3 ≤ hi) (h4 : lo ≤ x4 ∧ x4 ≤ hi) : ∃ y, atI [D.int x0, .int x1, .int x2, .int x3, .int x4] d = some (.int y) ∧ lo ≤ y ∧ y ≤ hi := by
  have : d = 0 ∨ d = 1 ∨ d = 2 ∨ d = 3 ∨ d = 4 := by omega
  rcases this with rfl | rfl | rfl | rfl | rfl
  · exact ⟨x0, at0, h0⟩
  · exact ⟨x1, at1, h1⟩
  · exact ⟨x2, at2, h2⟩
  · exact ⟨x3, at3, h3⟩
  · exact ⟨x4, at4, h4⟩
theorem body_ok (cells : List Int) (v c t m : Int) (hc : 0 ≤ c ∧ c < 4294967296) (hv : 0 ≤ v) (hm : 8 ≤ m ∧ m ≤ 1000) (ht : atI [D.int 8, .int 60, .int 1000, .int 1000] t = some (.int m)) {a0 z3 z4 z5 z6 z7 z8 z9 z10 : Option D} :
    ∃ w3 w4 w5 w6 w7 w8 w9 w10 cells' v' c', bodyS K [a0, some (.ref 1), some (.int t), z3, z4, z5, z6, z7, z8, z9, z10] (BX cells v c) = some (.nx, [a0, some (.ref 1), some (.int t), w3, w4, w5, w6, w7, w8, w9, w10], BX cells' v' c') ∧ (0 ≤ c' ∧ c' < 4294967296) ∧ 0 ≤ v' := by
  obtain ⟨d1, k1, v1, c1, e1, r1, hc1, hv1⟩ := dr cells v c m hc hv (by omega)
  obtain ⟨d2, k2, v2, c2, e2, r2, hc2, hv2⟩ := dr k1 v1 c1 (m + 1) hc1 hv1 (by omega)
  obtain ⟨d3, k3, v3, c3, e3, r3, hc3, hv3⟩ := dr k2 v2 c2 m hc2 hv2 (by omega)
  obtain ⟨d4, k4, v4, c4, e4, r4, hc4, hv4⟩ := dr k3 v3 c3 3 hc3 hv3 (by omega)
  obtain ⟨d5, k5, v5, c5, e5, r5, hc5, hv5⟩ := dr k4 v4 c4 m hc4 hv4 (by omega)
  obtain ⟨d6, k6, v6, c6, e6, r6, hc6, hv6⟩ := dr k5 v5 c5 5 hc5 hv5 (by omega)
  by_cases h4 : d4 = 0
  · obtain ⟨y, ey, hy1, hy2⟩ := pick5 (x0 := 0 - 1) (x1 := 0) (x2 := (1 + d1) / 2 - 1) (x3 := (1 + d1) / 2) (x4 := 1 + d5) (d := d6) (by omega) (-1) 1000 (by omega) (by omega) (by omega) (by omega) (by omega)
    obtain ⟨w8, w9, w10, et⟩ := tail_ok (K := K) (SokB k6 v6 c6) (a0 := a0) (a1 := some (.ref 1)) (a2 := some (.int t)) (a3 := some (.int m)) (z8 := z8) (z9 := z9) (z10 := z10) (1 + d1) 0 (1 + d3) y (by omega) (by omega) (by omega) ⟨hy1, hy2⟩
    exact ⟨_, _, _, _, _, _, _, _, k6, v6, c6, (by
      unfold bodyS
      repeat' (first
    | (with_reducible exact e1)
    | (with_reducible exact e2)
    | (with_reducible exact e3)
    | (with_reducible exact e4)
    | (with_reducible exact e5)
    | (with_reducible exact e6)
    | (with_reducible exact ht)
    | (with_reducible exact ey)
    | (with_reducible exact et)
    | (with_reducible exact jSet0)
    | (with_reducible apply jSetS)
    | ((with_reducible apply jVar); rfl)
    | (with_reducible apply jOp)
    | (with_reducible exact eC)
    | (with_reducible apply jCons)
    | (with_reducible exact jNil)
    | (with_reducible apply jSeq)
    | (with_reducible apply jKnx)
    | (with_reducible exact jSt0)
    | (with_reducible apply jStN)
    | (with_reducible apply jStC)
    | ((with_reducible refine jIteT ?hp ?_); case hp => rfl)
    | ((with_reducible refine jIteF ?hp ?_); case hp => exact Bool.false_ne_true)
    | ((with_reducible refine jIteF ?hp ?_); case hp => decide)
    | (with_reducible exact jApN)
    | (with_reducible apply jAppend)
    | (with_reducible apply jApC)
    | (with_reducible exact jGNl)
    | (with_reducible apply jGNm)
    | (with_reducible apply jIxT)
    | (with_reducible apply jIxL)
    | (with_reducible apply jIxR)
    | (with_reducible exact oAdd)
    | (with_reducible exact oTB)
    | (with_reducible apply jTst)
    | (with_reducible apply jIf)
    | (with_reducible apply jIfE)
    | (with_reducible apply jAnd)
    | (with_reducible apply jAndV)
    | (with_reducible apply jCall)
    | (with_reducible apply jSet)
    | (with_reducible exact cellEnd)
    | (with_reducible exact jForN)
    | (with_reducible apply jFor)
    | (with_reducible apply jForC)
    | (with_reducible apply jCB)
    | (with_reducible apply jFnx)
    | (with_reducible exact jSNil)
    | (with_reducible apply jGCs)
    | (with_reducible exact jRN)
    | (with_reducible apply jR1)
    | (with_reducible apply jR2)
    | (with_reducible apply jRS)
    | (with_reducible exact jRetKL)
    | (with_reducible apply jRet)
    | (with_reducible apply jRetF)
    | (with_reducible apply jRetKR)
    | (with_reducible exact oEqB)
    | ((with_reducible refine oEqT ?_); omega)
    | ((with_reducible refine oEqF ?_); omega)
    | (with_reducible exact jTruR0)
    | (with_reducible exact jTruR1)
    | (with_reducible apply jTru)
    | (with_reducible apply jLst)
    | (with_reducible apply jLstM)
    | (with_reducible apply jPar)
    | (with_reducible apply jPar3)
    | (with_reducible apply jPart)
    | (with_reducible apply jIsi)
    | ((with_reducible show atI _ _ = _); rfl)
    | ((with_reducible show Nat.ble _ _ = true); rfl)
    | ((with_reducible refine oMod ?_); omega)
    | (with_reducible apply jAddR)
    | (with_reducible apply jAddL)
    | (with_reducible apply jAddT)
    | ((with_reducible refine oLeT ?_); omega)
    | ((with_reducible refine oLeF ?_); omega)
    | (with_reducible exact jYes)
    | (with_reducible exact jAsN)
    | (with_reducible apply jAsg)
    | (with_reducible apply jAsC)
    | (with_reducible apply jSetLast)
    | (with_reducible apply jSetC)
    | (with_reducible exact jWN)
    | (with_reducible apply jWC)
    | (with_reducible exact jNo)
    | (with_reducible apply jNot)
    | (with_reducible apply jNotV)
    | (with_reducible exact setEnd)
    | (with_reducible exact tyI)
    | (with_reducible exact oIsN)
    | (with_reducible exact oIsNotN)
    | (with_reducible exact oIsNotTT)
    | ((with_reducible refine oMul ?_); omega)
    | ((with_reducible apply jInsGt); omega)
    | (with_reducible exact neT2)
    | (with_reducible exact oNeg)
    | (with_reducible exact oNeB)
    | (with_reducible exact oNeL0)
    | (with_reducible exact oNeL1)
    | (with_reducible exact oNeL2)
    | (with_reducible exact oNeR0)
    | ((with_reducible refine oNeT ?_); omega)
    | ((with_reducible refine oNeF ?_); omega)
    | ((with_reducible refine jNeRT ?_); rfl)
    | (with_reducible apply jSq)
    | (with_reducible apply jSqF)
    | (with_reducible apply jUn)
    | (with_reducible exact jMpN)
    | (with_reducible apply jMpC)
    | (with_reducible apply jGTp)
    | ((with_reducible refine oLtT ?_); omega)
    | ((with_reducible refine oLtF ?_); omega)
    | (with_reducible apply jTup)
    | (with_reducible exact oIntI)
    | (with_reducible apply jOr)
    | (with_reducible apply jOrV)
    | (with_reducible exact jLcN)
    | (with_reducible exact jLc2N)
    | (with_reducible apply jLc)
    | (with_reducible apply jLcC)
    | (with_reducible apply jLcK)
    | (with_reducible apply jLc2)
    | (with_reducible apply jLc2C)
    | (with_reducible exact atLast)
    | (with_reducible apply jCh)
    | (with_reducible apply jChK)
    | (with_reducible apply jExpr)
    | (with_reducible exact oSub)
    | (with_reducible exact insNil)
    | ((with_reducible refine insLt ?_); omega)
    | ((with_reducible refine insEq ?_); omega)
    | (with_reducible exact eAsT)
    | (with_reducible exact eAsL)
    | (with_reducible exact kII)
    | (with_reducible exact kIB)
    | (with_reducible exact jGxN)
    | (with_reducible exact jGxM)
    | (with_reducible apply jGx)
    | (with_reducible apply jGxC)
    | (with_reducible apply jGxK)
    | (with_reducible exact oListT)
    | (with_reducible apply jLenT)
    | (with_reducible apply jLenL)
    | (with_reducible apply jLenR)
    | ((with_reducible refine oGtT ?_); omega)
    | ((with_reducible refine oGtF ?_); omega)
    | (with_reducible exact tyT)
    | (with_reducible exact kTT)
    | (with_reducible exact jKret)
    | (with_reducible exact jZN)
    | (with_reducible exact jZN2)
    | (with_reducible apply jZp)
    | (with_reducible apply jZC)
    | (with_reducible exact ssetN)
    | (with_reducible apply jSS)
    | ((with_reducible refine oGeT ?_); omega)
    | ((with_reducible refine oGeF ?_); omega)
    | (with_reducible exact asQT)
    | (with_reducible exact asQL)
    | (with_reducible apply jSlT)
    | ((with_reducible refine oDiv ?_); omega)
    | (with_reducible exact jFret)
    | (with_reducible exact iN1)
    | (with_reducible exact iN2)
    | (with_reducible exact iN3)
    | (with_reducible exact oTupL)
    | (with_reducible exact oTupT)
    | (with_reducible exact tyN)
    | (with_reducible exact tyB)
    | (with_reducible exact kIT)
    | (with_reducible exact kIL)
    | ((with_reducible refine oMaxL ?_); omega)
    | ((with_reducible refine oMaxR ?_); omega)
    | (show Int.toNat _ = _; (try simp only [List.length_cons, List.length_nil, Nat.zero_add, Nat.reduceAdd, Int.cast_ofNat_Int, Int.reduceToNat, Int.reduceSub, Int.toNat_natCast]); (try rfl); done)
    | (show List.length _ = _; (try simp only [List.length_cons, List.length_nil, List.length_append, List.cons_append, List.nil_append, Nat.zero_add, Nat.reduceAdd]); (try rfl); done)
    | (show Nat.ble _ _ = true; rfl)
    | (show atI _ _ = _; rfl)
    | (show one dAll _ _ = _; rfl)
    | (with_reducible rfl)
    | omega
    | with_reducible assumption)), hc6, hv6⟩
  · obtain ⟨y, ey, hy1, hy2⟩ := pick5 (x0 := d2 - 1) (x1 := d2) (x2 := (1 + d1) / 2 - 1) (x3 := (1 + d1) / 2) (x4 := 1 + d5) (d := d6) (by omega) (-1) 1000 (by omega) (by omega) (by omega) (by omega) (by omega)
    obtain ⟨w8, w9, w10, et⟩ := tail_ok (K := K) (SokB k6 v6 c6) (a0 := a0) (a1 := some (.ref 1)) (a2 := some (.int t)) (a3 := some (.int m)) (z8 := z8) (z9 := z9) (z10 := z10) (1 + d1) d2 (1 + d3) y (by omega) (by omega) (by omega) ⟨hy1, hy2⟩
    exact ⟨_, _, _, _, _, _, _, _, k6, v6, c6, (by
      unfold bodyS
      repeat' (first
    | (with_reducible exact e1)
    | (with_reducible exact e2)
    | (with_reducible exact e3)
    | (with_reducible exact e4)
    | (with_reducible exact e5)
    | (with_reducible exact e6)
    | (with_reducible exact ht)
    | (with_reducible exact ey)
    | (with_reducible exact et)
    | (with_reducible exact jSet0)
    | (with_reducible apply jSetS)
    | ((with_reducible apply jVar); rfl)
    | (with_reducible apply jOp)
    | (with_reducible exact eC)
    | (with_reducible apply jCons)
    | (with_reducible exact jNil)
    | (with_reducible apply jSeq)
    | (with_reducible apply jKnx)
    | (with_reducible exact jSt0)
    | (with_reducible apply jStN)
    | (with_reducible apply jStC)
    | ((with_reducible refine jIteT ?hp ?_); case hp => rfl)
    | ((with_reducible refine jIteF ?hp ?_); case hp => exact Bool.false_ne_true)
    | ((with_reducible refine jIteF ?hp ?_); case hp => decide)
    | (with_reducible exact jApN)
    | (with_reducible apply jAppend)
    | (with_reducible apply jApC)
    | (with_reducible exact jGNl)
    | (with_reducible apply jGNm)
    | (with_reducible apply jIxT)
    | (with_reducible apply jIxL)
    | (with_reducible apply jIxR)
    | (with_reducible exact oAdd)
    | (with_reducible exact oTB)
    | (with_reducible apply jTst)
    | (with_reducible apply jIf)
    | (with_reducible apply jIfE)
    | (with_reducible apply jAnd)
    | (with_reducible apply jAndV)
    | (with_reducible apply jCall)
    | (with_reducible apply jSet)
    | (with_reducible exact cellEnd)
    | (with_reducible exact jForN)
    | (with_reducible apply jFor)
    | (with_reducible apply jForC)
    | (with_reducible apply jCB)
    | (with_reducible apply jFnx)
    | (with_reducible exact jSNil)
    | (with_reducible apply jGCs)
    | (with_reducible exact jRN)
    | (with_reducible apply jR1)
    | (with_reducible apply jR2)
    | (with_reducible apply jRS)
    | (with_reducible exact jRetKL)
    | (with_reducible apply jRet)
    | (with_reducible apply jRetF)
    | (with_reducible apply jRetKR)
    | (with_reducible exact oEqB)
    | ((with_reducible refine oEqT ?_); omega)
    | ((with_reducible refine oEqF ?_); omega)
    | (with_reducible exact jTruR0)
    | (with_reducible exact jTruR1)
    | (with_reducible apply jTru)
    | (with_reducible apply jLst)
    | (with_reducible apply jLstM)
    | (with_reducible apply jPar)
    | (with_reducible apply jPar3)
    | (with_reducible apply jPart)
    | (with_reducible apply jIsi)
    | ((with_reducible show atI _ _ = _); rfl)
    | ((with_reducible show Nat.ble _ _ = true); rfl)
    | ((with_reducible refine oMod ?_); omega)
    | (with_reducible apply jAddR)
    | (with_reducible apply jAddL)
    | (with_reducible apply jAddT)
    | ((with_reducible refine oLeT ?_); omega)
    | ((with_reducible refine oLeF ?_); omega)
    | (with_reducible exact jYes)
    | (with_reducible exact jAsN)
    | (with_reducible apply jAsg)
    | (with_reducible apply jAsC)
    | (with_reducible apply jSetLast)
    | (with_reducible apply jSetC)
    | (with_reducible exact jWN)
    | (with_reducible apply jWC)
    | (with_reducible exact jNo)
    | (with_reducible apply jNot)
    | (with_reducible apply jNotV)
    | (with_reducible exact setEnd)
    | (with_reducible exact tyI)
    | (with_reducible exact oIsN)
    | (with_reducible exact oIsNotN)
    | (with_reducible exact oIsNotTT)
    | ((with_reducible refine oMul ?_); omega)
    | ((with_reducible apply jInsGt); omega)
    | (with_reducible exact neT2)
    | (with_reducible exact oNeg)
    | (with_reducible exact oNeB)
    | (with_reducible exact oNeL0)
    | (with_reducible exact oNeL1)
    | (with_reducible exact oNeL2)
    | (with_reducible exact oNeR0)
    | ((with_reducible refine oNeT ?_); omega)
    | ((with_reducible refine oNeF ?_); omega)
    | ((with_reducible refine jNeRT ?_); rfl)
    | (with_reducible apply jSq)
    | (with_reducible apply jSqF)
    | (with_reducible apply jUn)
    | (with_reducible exact jMpN)
    | (with_reducible apply jMpC)
    | (with_reducible apply jGTp)
    | ((with_reducible refine oLtT ?_); omega)
    | ((with_reducible refine oLtF ?_); omega)
    | (with_reducible apply jTup)
    | (with_reducible exact oIntI)
    | (with_reducible apply jOr)
    | (with_reducible apply jOrV)
    | (with_reducible exact jLcN)
    | (with_reducible exact jLc2N)
    | (with_reducible apply jLc)
    | (with_reducible apply jLcC)
    | (with_reducible apply jLcK)
    | (with_reducible apply jLc2)
    | (with_reducible apply jLc2C)
    | (with_reducible exact atLast)
    | (with_reducible apply jCh)
    | (with_reducible apply jChK)
    | (with_reducible apply jExpr)
    | (with_reducible exact oSub)
    | (with_reducible exact insNil)
    | ((with_reducible refine insLt ?_); omega)
    | ((with_reducible refine insEq ?_); omega)
    | (with_reducible exact eAsT)
    | (with_reducible exact eAsL)
    | (with_reducible exact kII)
    | (with_reducible exact kIB)
    | (with_reducible exact jGxN)
    | (with_reducible exact jGxM)
    | (with_reducible apply jGx)
    | (with_reducible apply jGxC)
    | (with_reducible apply jGxK)
    | (with_reducible exact oListT)
    | (with_reducible apply jLenT)
    | (with_reducible apply jLenL)
    | (with_reducible apply jLenR)
    | ((with_reducible refine oGtT ?_); omega)
    | ((with_reducible refine oGtF ?_); omega)
    | (with_reducible exact tyT)
    | (with_reducible exact kTT)
    | (with_reducible exact jKret)
    | (with_reducible exact jZN)
    | (with_reducible exact jZN2)
    | (with_reducible apply jZp)
    | (with_reducible apply jZC)
    | (with_reducible exact ssetN)
    | (with_reducible apply jSS)
    | ((with_reducible refine oGeT ?_); omega)
    | ((with_reducible refine oGeF ?_); omega)
    | (with_reducible exact asQT)
    | (with_reducible exact asQL)
    | (with_reducible apply jSlT)
    | ((with_reducible refine oDiv ?_); omega)
    | (with_reducible exact jFret)
    | (with_reducible exact iN1)
    | (with_reducible exact iN2)
    | (with_reducible exact iN3)
    | (with_reducible exact oTupL)
    | (with_reducible exact oTupT)
    | (with_reducible exact tyN)
    | (with_reducible exact tyB)
    | (with_reducible exact kIT)
    | (with_reducible exact kIL)
    | ((with_reducible refine oMaxL ?_); omega)
    | ((with_reducible refine oMaxR ?_); omega)
    | (show Int.toNat _ = _; (try simp only [List.length_cons, List.length_nil, Nat.zero_add, Nat.reduceAdd, Int.cast_ofNat_Int, Int.reduceToNat, Int.reduceSub, Int.toNat_natCast]); (try rfl); done)
    | (show List.length _ = _; (try simp only [List.length_cons, List.length_nil, List.length_append, List.cons_append, List.nil_append, Nat.zero_add, Nat.reduceAdd]); (try rfl); done)
    | (show Nat.ble _ _ = true; rfl)
    | (show atI _ _ = _; rfl)
    | (show one dAll _ _ = _; rfl)
    | (with_reducible rfl)
    | omega
    | with_reducible assumption)), hc6, hv6⟩
theorem same4000 (S : Store) : F__law_same [.int 4000, .int 4000] S = some (.bl true, S) := by
  repeat' (first
    | (with_reducible apply run__law_same)
    | (with_reducible exact jSet0)
    | (with_reducible apply jSetS)
    | ((with_reducible apply jVar); rfl)
    | (with_reducible apply jOp)
    | (with_reducible exact eC)
    | (with_reducible apply jCons)
    | (with_reducible exact jNil)
    | (with_reducible apply jSeq)
    | (with_reducible apply jKnx)
    | (with_reducible exact jSt0)
    | (with_reducible apply jStN)
    | (with_reducible apply jStC)
    | ((with_reducible refine jIteT ?hp ?_); case hp => rfl)
    | ((with_reducible refine jIteF ?hp ?_); case hp => exact Bool.false_ne_true)
    | ((with_reducible refine jIteF ?hp ?_); case hp => decide)
    | (with_reducible exact jApN)
    | (with_reducible apply jAppend)
    | (with_reducible apply jApC)
    | (with_reducible exact jGNl)
    | (with_reducible apply jGNm)
    | (with_reducible apply jIxT)
    | (with_reducible apply jIxL)
    | (with_reducible apply jIxR)
    | (with_reducible exact oAdd)
    | (with_reducible exact oTB)
    | (with_reducible apply jTst)
    | (with_reducible apply jIf)
    | (with_reducible apply jIfE)
    | (with_reducible apply jAnd)
    | (with_reducible apply jAndV)
    | (with_reducible apply jCall)
    | (with_reducible apply jSet)
    | (with_reducible exact cellEnd)
    | (with_reducible exact jForN)
    | (with_reducible apply jFor)
    | (with_reducible apply jForC)
    | (with_reducible apply jCB)
    | (with_reducible apply jFnx)
    | (with_reducible exact jSNil)
    | (with_reducible apply jGCs)
    | (with_reducible exact jRN)
    | (with_reducible apply jR1)
    | (with_reducible apply jR2)
    | (with_reducible apply jRS)
    | (with_reducible exact jRetKL)
    | (with_reducible apply jRet)
    | (with_reducible apply jRetF)
    | (with_reducible apply jRetKR)
    | (with_reducible exact oEqB)
    | ((with_reducible refine oEqT ?_); omega)
    | ((with_reducible refine oEqF ?_); omega)
    | (with_reducible exact jTruR0)
    | (with_reducible exact jTruR1)
    | (with_reducible apply jTru)
    | (with_reducible apply jLst)
    | (with_reducible apply jLstM)
    | (with_reducible apply jPar)
    | (with_reducible apply jPar3)
    | (with_reducible apply jPart)
    | (with_reducible apply jIsi)
    | ((with_reducible show atI _ _ = _); rfl)
    | ((with_reducible show Nat.ble _ _ = true); rfl)
    | ((with_reducible refine oMod ?_); omega)
    | (with_reducible apply jAddR)
    | (with_reducible apply jAddL)
    | (with_reducible apply jAddT)
    | ((with_reducible refine oLeT ?_); omega)
    | ((with_reducible refine oLeF ?_); omega)
    | (with_reducible exact jYes)
    | (with_reducible exact jAsN)
    | (with_reducible apply jAsg)
    | (with_reducible apply jAsC)
    | (with_reducible apply jSetLast)
    | (with_reducible apply jSetC)
    | (with_reducible exact jWN)
    | (with_reducible apply jWC)
    | (with_reducible exact jNo)
    | (with_reducible apply jNot)
    | (with_reducible apply jNotV)
    | (with_reducible exact setEnd)
    | (with_reducible exact tyI)
    | (with_reducible exact oIsN)
    | (with_reducible exact oIsNotN)
    | (with_reducible exact oIsNotTT)
    | ((with_reducible refine oMul ?_); omega)
    | ((with_reducible apply jInsGt); omega)
    | (with_reducible exact neT2)
    | (with_reducible exact oNeg)
    | (with_reducible exact oNeB)
    | (with_reducible exact oNeL0)
    | (with_reducible exact oNeL1)
    | (with_reducible exact oNeL2)
    | (with_reducible exact oNeR0)
    | ((with_reducible refine oNeT ?_); omega)
    | ((with_reducible refine oNeF ?_); omega)
    | ((with_reducible refine jNeRT ?_); rfl)
    | (with_reducible apply jSq)
    | (with_reducible apply jSqF)
    | (with_reducible apply jUn)
    | (with_reducible exact jMpN)
    | (with_reducible apply jMpC)
    | (with_reducible apply jGTp)
    | ((with_reducible refine oLtT ?_); omega)
    | ((with_reducible refine oLtF ?_); omega)
    | (with_reducible apply jTup)
    | (with_reducible exact oIntI)
    | (with_reducible apply jOr)
    | (with_reducible apply jOrV)
    | (with_reducible exact jLcN)
    | (with_reducible exact jLc2N)
    | (with_reducible apply jLc)
    | (with_reducible apply jLcC)
    | (with_reducible apply jLcK)
    | (with_reducible apply jLc2)
    | (with_reducible apply jLc2C)
    | (with_reducible exact atLast)
    | (with_reducible apply jCh)
    | (with_reducible apply jChK)
    | (with_reducible apply jExpr)
    | (with_reducible exact oSub)
    | (with_reducible exact insNil)
    | ((with_reducible refine insLt ?_); omega)
    | ((with_reducible refine insEq ?_); omega)
    | (with_reducible exact eAsT)
    | (with_reducible exact eAsL)
    | (with_reducible exact kII)
    | (with_reducible exact kIB)
    | (with_reducible exact jGxN)
    | (with_reducible exact jGxM)
    | (with_reducible apply jGx)
    | (with_reducible apply jGxC)
    | (with_reducible apply jGxK)
    | (with_reducible exact oListT)
    | (with_reducible apply jLenT)
    | (with_reducible apply jLenL)
    | (with_reducible apply jLenR)
    | ((with_reducible refine oGtT ?_); omega)
    | ((with_reducible refine oGtF ?_); omega)
    | (with_reducible exact tyT)
    | (with_reducible exact kTT)
    | (with_reducible exact jKret)
    | (with_reducible exact jZN)
    | (with_reducible exact jZN2)
    | (with_reducible apply jZp)
    | (with_reducible apply jZC)
    | (with_reducible exact ssetN)
    | (with_reducible apply jSS)
    | ((with_reducible refine oGeT ?_); omega)
    | ((with_reducible refine oGeF ?_); omega)
    | (with_reducible exact asQT)
    | (with_reducible exact asQL)
    | (with_reducible apply jSlT)
    | ((with_reducible refine oDiv ?_); omega)
    | (with_reducible exact jFret)
    | (with_reducible exact iN1)
    | (with_reducible exact iN2)
    | (with_reducible exact iN3)
    | (with_reducible exact oTupL)
    | (with_reducible exact oTupT)
    | (with_reducible exact tyN)
    | (with_reducible exact tyB)
    | (with_reducible exact kIT)
    | (with_reducible exact kIL)
    | ((with_reducible refine oMaxL ?_); omega)
    | ((with_reducible refine oMaxR ?_); omega)
    | (show Int.toNat _ = _; (try simp only [List.length_cons, List.length_nil, Nat.zero_add, Nat.reduceAdd, Int.cast_ofNat_Int, Int.reduceToNat, Int.reduceSub, Int.toNat_natCast]); (try rfl); done)
    | (show List.length _ = _; (try simp only [List.length_cons, List.length_nil, List.length_append, List.cons_append, List.nil_append, Nat.zero_add, Nat.reduceAdd]); (try rfl); done)
    | (show Nat.ble _ _ = true; rfl)
    | (show atI _ _ = _; rfl)
    | (show one dAll _ _ = _; rfl)
    | (with_reducible rfl)
    | omega
    | with_reducible assumption)
end
end K51

namespace K51
open PySem PySem.Spec PyProof.Rows L2 DL
section
variable {K : PySem.W.Frag}
theorem box_ok {d : D} {cs : List Int} {n : Int} (h1 : dSl none (some 63) [] d = some (.lst (cs.map D.int))) (h2 : ∀ S : Store, one dLen S [d] = some (.int n)) : F__law_box [d] [] = some (.ref 1, BX cs 0 (4711 + n)) := by
  refine run__law_box (sl := [some d]) (sl' := [some d]) rfl rfl (jRet ?_)
  have e1 : fListM (fCons (fSl (fVar 0) fNo (fPart (fC (.int 63)))) fNil) [some d] [] = some (.ref 0, [.lst (cs.map D.int)]) := by
    unfold fListM
    rw [eCons, eSl, jVar (sl := [some d]) (n := 0) (d := d) rfl, Option.bind_some, eNo, Option.bind_some, ePart, eC, Option.bind_some]
    show ((((dSl none (some 63) [] d).bind fun d => some (d, ([] : Store))).bind fun p => (fNil [some d] p.2).bind fun q => some (p.1 :: q.1, q.2)).bind _) = _
    rw [h1]
    rfl
  exact jLstM (S1 := [.lst (cs.map D.int)]) (jCons e1 (jCons eC (jCons (jOp eC (jCB (jCons (jVar rfl) jNil) (h2 _)) oAdd) jNil))) rfl
theorem law_run {d : D} {cs : List Int} {c : Int} (hbox : F__law_box [d] [] = some (.ref 1, BX cs 0 c)) (hc : 0 ≤ c ∧ c < 4294967296) : ∃ S', F_law K [d] [] = some (.bl true, S') := by
  obtain ⟨a3, a4, a5, a6, a7, a8, a9, a10, k1, v1, c1, e1, hc1, hv1⟩ := body_ok (K := K) cs 0 c 0 8 hc (by omega) (by omega) at0 (a0 := some d) (z3 := none) (z4 := none) (z5 := none) (z6 := none) (z7 := none) (z8 := none) (z9 := none) (z10 := none)
  obtain ⟨b3, b4, b5, b6, b7, b8, b9, b10, k2, v2, c2, e2, hc2, hv2⟩ := body_ok (K := K) k1 v1 c1 (0 + 1) 60 hc1 hv1 (by omega) at1 (a0 := some d) (z3 := a3) (z4 := a4) (z5 := a5) (z6 := a6) (z7 := a7) (z8 := a8) (z9 := a9) (z10 := a10)
  obtain ⟨x3, x4, x5, x6, x7, x8, x9, x10, k3, v3, c3, e3, hc3, hv3⟩ := body_ok (K := K) k2 v2 c2 (0 + 1 + 1) 1000 hc2 hv2 (by omega) at2 (a0 := some d) (z3 := b3) (z4 := b4) (z5 := b5) (z6 := b6) (z7 := b7) (z8 := b8) (z9 := b9) (z10 := b10)
  obtain ⟨y3, y4, y5, y6, y7, y8, y9, y10, k4, v4, c4, e4, hc4, hv4⟩ := body_ok (K := K) k3 v3 c3 (0 + 1 + 1 + 1) 1000 hc3 hv3 (by omega) at3 (a0 := some d) (z3 := x3) (z4 := x4) (z5 := x5) (z6 := x6) (z7 := x7) (z8 := x8) (z9 := x9) (z10 := x10)
  unfold bodyS tailS at e1 e2 e3 e4
  exact ⟨_, run_law (K := K) rfl (by repeat' (first
    | (with_reducible exact jSet0)
    | (with_reducible apply jSetS)
    | ((with_reducible apply jVar); rfl)
    | (with_reducible apply jOp)
    | (with_reducible exact eC)
    | (with_reducible apply jCons)
    | (with_reducible exact jNil)
    | (with_reducible apply jSeq)
    | (with_reducible apply jKnx)
    | (with_reducible exact jSt0)
    | (with_reducible apply jStN)
    | (with_reducible apply jStC)
    | ((with_reducible refine jIteT ?hp ?_); case hp => rfl)
    | ((with_reducible refine jIteF ?hp ?_); case hp => exact Bool.false_ne_true)
    | ((with_reducible refine jIteF ?hp ?_); case hp => decide)
    | (with_reducible exact jApN)
    | (with_reducible apply jAppend)
    | (with_reducible apply jApC)
    | (with_reducible exact jGNl)
    | (with_reducible apply jGNm)
    | (with_reducible apply jIxT)
    | (with_reducible apply jIxL)
    | (with_reducible apply jIxR)
    | (with_reducible exact oAdd)
    | (with_reducible exact oTB)
    | (with_reducible apply jTst)
    | (with_reducible apply jIf)
    | (with_reducible apply jIfE)
    | (with_reducible apply jAnd)
    | (with_reducible apply jAndV)
    | (with_reducible apply jCall)
    | (with_reducible apply jSet)
    | (with_reducible exact cellEnd)
    | (with_reducible exact jForN)
    | (with_reducible apply jFor)
    | (with_reducible apply jForC)
    | (with_reducible apply jCB)
    | (with_reducible apply jFnx)
    | (with_reducible exact jSNil)
    | (with_reducible apply jGCs)
    | (with_reducible exact jRN)
    | (with_reducible apply jR1)
    | (with_reducible apply jR2)
    | (with_reducible apply jRS)
    | (with_reducible exact jRetKL)
    | (with_reducible apply jRet)
    | (with_reducible apply jRetF)
    | (with_reducible apply jRetKR)
    | (with_reducible exact oEqB)
    | ((with_reducible refine oEqT ?_); omega)
    | ((with_reducible refine oEqF ?_); omega)
    | (with_reducible exact jTruR0)
    | (with_reducible exact jTruR1)
    | (with_reducible apply jTru)
    | (with_reducible apply jLst)
    | (with_reducible apply jLstM)
    | (with_reducible apply jPar)
    | (with_reducible apply jPar3)
    | (with_reducible apply jPart)
    | (with_reducible apply jIsi)
    | ((with_reducible show atI _ _ = _); rfl)
    | ((with_reducible show Nat.ble _ _ = true); rfl)
    | ((with_reducible refine oMod ?_); omega)
    | (with_reducible apply jAddR)
    | (with_reducible apply jAddL)
    | (with_reducible apply jAddT)
    | ((with_reducible refine oLeT ?_); omega)
    | ((with_reducible refine oLeF ?_); omega)
    | (with_reducible exact jYes)
    | (with_reducible exact jAsN)
    | (with_reducible apply jAsg)
    | (with_reducible apply jAsC)
    | (with_reducible apply jSetLast)
    | (with_reducible apply jSetC)
    | (with_reducible exact jWN)
    | (with_reducible apply jWC)
    | (with_reducible exact jNo)
    | (with_reducible apply jNot)
    | (with_reducible apply jNotV)
    | (with_reducible exact setEnd)
    | (with_reducible exact tyI)
    | (with_reducible exact oIsN)
    | (with_reducible exact oIsNotN)
    | (with_reducible exact oIsNotTT)
    | ((with_reducible refine oMul ?_); omega)
    | ((with_reducible apply jInsGt); omega)
    | (with_reducible exact neT2)
    | (with_reducible exact oNeg)
    | (with_reducible exact oNeB)
    | (with_reducible exact oNeL0)
    | (with_reducible exact oNeL1)
    | (with_reducible exact oNeL2)
    | (with_reducible exact oNeR0)
    | ((with_reducible refine oNeT ?_); omega)
    | ((with_reducible refine oNeF ?_); omega)
    | ((with_reducible refine jNeRT ?_); rfl)
    | (with_reducible apply jSq)
    | (with_reducible apply jSqF)
    | (with_reducible apply jUn)
    | (with_reducible exact jMpN)
    | (with_reducible apply jMpC)
    | (with_reducible apply jGTp)
    | ((with_reducible refine oLtT ?_); omega)
    | ((with_reducible refine oLtF ?_); omega)
    | (with_reducible apply jTup)
    | (with_reducible exact oIntI)
    | (with_reducible apply jOr)
    | (with_reducible apply jOrV)
    | (with_reducible exact jLcN)
    | (with_reducible exact jLc2N)
    | (with_reducible apply jLc)
    | (with_reducible apply jLcC)
    | (with_reducible apply jLcK)
    | (with_reducible apply jLc2)
    | (with_reducible apply jLc2C)
    | (with_reducible exact atLast)
    | (with_reducible apply jCh)
    | (with_reducible apply jChK)
    | (with_reducible apply jExpr)
    | (with_reducible exact oSub)
    | (with_reducible exact insNil)
    | ((with_reducible refine insLt ?_); omega)
    | ((with_reducible refine insEq ?_); omega)
    | (with_reducible exact eAsT)
    | (with_reducible exact eAsL)
    | (with_reducible exact kII)
    | (with_reducible exact kIB)
    | (with_reducible exact jGxN)
    | (with_reducible exact jGxM)
    | (with_reducible apply jGx)
    | (with_reducible apply jGxC)
    | (with_reducible apply jGxK)
    | (with_reducible exact oListT)
    | (with_reducible apply jLenT)
    | (with_reducible apply jLenL)
    | (with_reducible apply jLenR)
    | ((with_reducible refine oGtT ?_); omega)
    | ((with_reducible refine oGtF ?_); omega)
    | (with_reducible exact tyT)
    | (with_reducible exact kTT)
    | (with_reducible exact jKret)
    | (with_reducible exact jZN)
    | (with_reducible exact jZN2)
    | (with_reducible apply jZp)
    | (with_reducible apply jZC)
    | (with_reducible exact ssetN)
    | (with_reducible apply jSS)
    | ((with_reducible refine oGeT ?_); omega)
    | ((with_reducible refine oGeF ?_); omega)
    | (with_reducible exact asQT)
    | (with_reducible exact asQL)
    | (with_reducible apply jSlT)
    | ((with_reducible refine oDiv ?_); omega)
    | (with_reducible exact jFret)
    | (with_reducible exact iN1)
    | (with_reducible exact iN2)
    | (with_reducible exact iN3)
    | (with_reducible exact oTupL)
    | (with_reducible exact oTupT)
    | (with_reducible exact tyN)
    | (with_reducible exact tyB)
    | (with_reducible exact kIT)
    | (with_reducible exact kIL)
    | ((with_reducible refine oMaxL ?_); omega)
    | ((with_reducible refine oMaxR ?_); omega)
    | (show Int.toNat _ = _; (try simp only [List.length_cons, List.length_nil, Nat.zero_add, Nat.reduceAdd, Int.cast_ofNat_Int, Int.reduceToNat, Int.reduceSub, Int.toNat_natCast]); (try rfl); done)
    | (show List.length _ = _; (try simp only [List.length_cons, List.length_nil, List.length_append, List.cons_append, List.nil_append, Nat.zero_add, Nat.reduceAdd]); (try rfl); done)
    | (show Nat.ble _ _ = true; rfl)
    | (show atI _ _ = _; rfl)
    | (show one dAll _ _ = _; rfl)
    | (with_reducible rfl)
    | omega
    | with_reducible assumption)) (by repeat' (first
    | (with_reducible exact hbox)
    | (with_reducible exact same4000 _)
    | (with_reducible exact e1)
    | (with_reducible exact e2)
    | (with_reducible exact e3)
    | (with_reducible exact e4)
    | (with_reducible exact jSet0)
    | (with_reducible apply jSetS)
    | ((with_reducible apply jVar); rfl)
    | (with_reducible apply jOp)
    | (with_reducible exact eC)
    | (with_reducible apply jCons)
    | (with_reducible exact jNil)
    | (with_reducible apply jSeq)
    | (with_reducible apply jKnx)
    | (with_reducible exact jSt0)
    | (with_reducible apply jStN)
    | (with_reducible apply jStC)
    | ((with_reducible refine jIteT ?hp ?_); case hp => rfl)
    | ((with_reducible refine jIteF ?hp ?_); case hp => exact Bool.false_ne_true)
    | ((with_reducible refine jIteF ?hp ?_); case hp => decide)
    | (with_reducible exact jApN)
    | (with_reducible apply jAppend)
    | (with_reducible apply jApC)
    | (with_reducible exact jGNl)
    | (with_reducible apply jGNm)
    | (with_reducible apply jIxT)
    | (with_reducible apply jIxL)
    | (with_reducible apply jIxR)
    | (with_reducible exact oAdd)
    | (with_reducible exact oTB)
    | (with_reducible apply jTst)
    | (with_reducible apply jIf)
    | (with_reducible apply jIfE)
    | (with_reducible apply jAnd)
    | (with_reducible apply jAndV)
    | (with_reducible apply jCall)
    | (with_reducible apply jSet)
    | (with_reducible exact cellEnd)
    | (with_reducible exact jForN)
    | (with_reducible apply jFor)
    | (with_reducible apply jForC)
    | (with_reducible apply jCB)
    | (with_reducible apply jFnx)
    | (with_reducible exact jSNil)
    | (with_reducible apply jGCs)
    | (with_reducible exact jRN)
    | (with_reducible apply jR1)
    | (with_reducible apply jR2)
    | (with_reducible apply jRS)
    | (with_reducible exact jRetKL)
    | (with_reducible apply jRet)
    | (with_reducible apply jRetF)
    | (with_reducible apply jRetKR)
    | (with_reducible exact oEqB)
    | ((with_reducible refine oEqT ?_); omega)
    | ((with_reducible refine oEqF ?_); omega)
    | (with_reducible exact jTruR0)
    | (with_reducible exact jTruR1)
    | (with_reducible apply jTru)
    | (with_reducible apply jLst)
    | (with_reducible apply jLstM)
    | (with_reducible apply jPar)
    | (with_reducible apply jPar3)
    | (with_reducible apply jPart)
    | (with_reducible apply jIsi)
    | ((with_reducible show atI _ _ = _); rfl)
    | ((with_reducible show Nat.ble _ _ = true); rfl)
    | ((with_reducible refine oMod ?_); omega)
    | (with_reducible apply jAddR)
    | (with_reducible apply jAddL)
    | (with_reducible apply jAddT)
    | ((with_reducible refine oLeT ?_); omega)
    | ((with_reducible refine oLeF ?_); omega)
    | (with_reducible exact jYes)
    | (with_reducible exact jAsN)
    | (with_reducible apply jAsg)
    | (with_reducible apply jAsC)
    | (with_reducible apply jSetLast)
    | (with_reducible apply jSetC)
    | (with_reducible exact jWN)
    | (with_reducible apply jWC)
    | (with_reducible exact jNo)
    | (with_reducible apply jNot)
    | (with_reducible apply jNotV)
    | (with_reducible exact setEnd)
    | (with_reducible exact tyI)
    | (with_reducible exact oIsN)
    | (with_reducible exact oIsNotN)
    | (with_reducible exact oIsNotTT)
    | ((with_reducible refine oMul ?_); omega)
    | ((with_reducible apply jInsGt); omega)
    | (with_reducible exact neT2)
    | (with_reducible exact oNeg)
    | (with_reducible exact oNeB)
    | (with_reducible exact oNeL0)
    | (with_reducible exact oNeL1)
    | (with_reducible exact oNeL2)
    | (with_reducible exact oNeR0)
    | ((with_reducible refine oNeT ?_); omega)
    | ((with_reducible refine oNeF ?_); omega)
    | ((with_reducible refine jNeRT ?_); rfl)
    | (with_reducible apply jSq)
    | (with_reducible apply jSqF)
    | (with_reducible apply jUn)
    | (with_reducible exact jMpN)
    | (with_reducible apply jMpC)
    | (with_reducible apply jGTp)
    | ((with_reducible refine oLtT ?_); omega)
    | ((with_reducible refine oLtF ?_); omega)
    | (with_reducible apply jTup)
    | (with_reducible exact oIntI)
    | (with_reducible apply jOr)
    | (with_reducible apply jOrV)
    | (with_reducible exact jLcN)
    | (with_reducible exact jLc2N)
    | (with_reducible apply jLc)
    | (with_reducible apply jLcC)
    | (with_reducible apply jLcK)
    | (with_reducible apply jLc2)
    | (with_reducible apply jLc2C)
    | (with_reducible exact atLast)
    | (with_reducible apply jCh)
    | (with_reducible apply jChK)
    | (with_reducible apply jExpr)
    | (with_reducible exact oSub)
    | (with_reducible exact insNil)
    | ((with_reducible refine insLt ?_); omega)
    | ((with_reducible refine insEq ?_); omega)
    | (with_reducible exact eAsT)
    | (with_reducible exact eAsL)
    | (with_reducible exact kII)
    | (with_reducible exact kIB)
    | (with_reducible exact jGxN)
    | (with_reducible exact jGxM)
    | (with_reducible apply jGx)
    | (with_reducible apply jGxC)
    | (with_reducible apply jGxK)
    | (with_reducible exact oListT)
    | (with_reducible apply jLenT)
    | (with_reducible apply jLenL)
    | (with_reducible apply jLenR)
    | ((with_reducible refine oGtT ?_); omega)
    | ((with_reducible refine oGtF ?_); omega)
    | (with_reducible exact tyT)
    | (with_reducible exact kTT)
    | (with_reducible exact jKret)
    | (with_reducible exact jZN)
    | (with_reducible exact jZN2)
    | (with_reducible apply jZp)
    | (with_reducible apply jZC)
    | (with_reducible exact ssetN)
    | (with_reducible apply jSS)
    | ((with_reducible refine oGeT ?_); omega)
    | ((with_reducible refine oGeF ?_); omega)
    | (with_reducible exact asQT)
    | (with_reducible exact asQL)
    | (with_reducible apply jSlT)
    | ((with_reducible refine oDiv ?_); omega)
    | (with_reducible exact jFret)
    | (with_reducible exact iN1)
    | (with_reducible exact iN2)
    | (with_reducible exact iN3)
    | (with_reducible exact oTupL)
    | (with_reducible exact oTupT)
    | (with_reducible exact tyN)
    | (with_reducible exact tyB)
    | (with_reducible exact kIT)
    | (with_reducible exact kIL)
    | ((with_reducible refine oMaxL ?_); omega)
    | ((with_reducible refine oMaxR ?_); omega)
    | (show Int.toNat _ = _; (try simp only [List.length_cons, List.length_nil, Nat.zero_add, Nat.reduceAdd, Int.cast_ofNat_Int, Int.reduceToNat, Int.reduceSub, Int.toNat_natCast]); (try rfl); done)
    | (show List.length _ = _; (try simp only [List.length_cons, List.length_nil, List.length_append, List.cons_append, List.nil_append, Nat.zero_add, Nat.reduceAdd]); (try rfl); done)
    | (show Nat.ble _ _ = true; rfl)
    | (show atI _ _ = _; rfl)
    | (show one dAll _ _ = _; rfl)
    | (with_reducible rfl)
    | omega
    | with_reducible assumption))⟩
theorem cutI51 (ns : List Int) (lo hi : Option Int) : ∃ cs : List Int, DL.cutD (ns.map D.int) lo hi = cs.map D.int := by
  unfold DL.cutD
  rw [← List.map_drop, ← List.map_take]
  exact ⟨_, rfl⟩
theorem law_scr (ns : List Int) (h : ns.length ≤ 63) : ∃ S', F_law K [.scr ns] [] = some (.bl true, S') := by
  obtain ⟨cs, e⟩ := cutI51 ns none (some 63)
  refine law_run (box_ok (cs := cs) (n := ((ns.map D.int).length : Nat)) ?_ fun S => rfl) (by rw [List.length_map]; omega)
  show some (D.lst (DL.cutD (ns.map D.int) none (some 63))) = _
  rw [e]
theorem law_lst (ns : List Int) (h : ns.length ≤ 63) : ∃ S', F_law K [.lst (ns.map D.int)] [] = some (.bl true, S') := by
  obtain ⟨cs, e⟩ := cutI51 ns none (some 63)
  refine law_run (box_ok (cs := cs) (n := ((ns.map D.int).length : Nat)) ?_ fun S => rfl) (by rw [List.length_map]; omega)
  show some (D.lst (DL.cutD (ns.map D.int) none (some 63))) = _
  rw [e]
end
/-! ### the promise -/
theorem sim0 {K : PySem.W.Frag} {T : List Addr} {H φ : Hp} (h1 : ∀ a o, φ a = some o → H a = some o) (h2 : ∀ a q, φ a ≠ some (.tbl q)) (h3 : ∀ P ∈ T, GxR.TabG H P) : Sim K T ⟨[], φ, fun _ => none⟩ [] H where
  len := rfl
  imm := h1
  cell := fun n c a e => by simp at e
  inj := fun n m c c' a e => by simp at e
  mt := fun n c a e => by simp at e
  tab := h3
  knd := h2
  pn := fun a o e => by cases e
  pc := fun n c a e => by simp at e
theorem promise {K : PySem.W.Frag} {H : Hp} {a : Addr} {ns : List Int} (hl : ns.length ≤ 63) (hT : ∀ p ∈ tfL.map (He.cT K), H p.2 = some (.tbl #[])) (hS : SqL K H a (ns.map V.int)) : spD K (TT K) (F_law K) [.ref a] H (fun v _ => v = .bl true) fun _ _ _ => False := by
  have tabs : ∀ P ∈ TT K, GxR.TabG H P := fun P hP => by
    obtain ⟨p, hp, e⟩ := List.mem_map.mp hP
    subst e
    exact ⟨#[], hT _ (List.mem_map_of_mem hp), (by unfold TriplesOk; trivial)⟩
  rcases hS with (h | ⟨o, h⟩) | h
  · obtain ⟨S', e⟩ := law_lst (K := K) ns hl
    refine ⟨⟨[], upd (fun _ => none) a (.lst (ns.map V.int)), fun _ => none⟩, [], [.lst (ns.map D.int)], .bl true, S', sim0 (fun b o e => ?_) (fun b q e => ?_) tabs, reps_cons (rep_lst (vs := ns.map V.int) (show upd (fun _ => none) a (HO.lst (ns.map V.int)) a = some (HO.lst (ns.map V.int)) from upd_same) (reps_ints ns)) reps_nil, e, fun W' H' v _ _ r => r.bl⟩
    · by_cases hb : b = a
      · subst hb
        rw [upd_same] at e
        cases e
        exact h
      · rw [upd_ne hb] at e
        cases e
    · by_cases hb : b = a
      · subst hb
        have e : upd (fun _ => none) b (HO.lst (ns.map V.int)) b = some (.tbl q) := e
        rw [upd_same] at e
        cases e
      · have e : upd (fun _ => none) a (HO.lst (ns.map V.int)) b = some (.tbl q) := e
        rw [upd_ne hb] at e
        cases e
  · obtain ⟨S', e⟩ := law_scr (K := K) ns hl
    refine ⟨⟨[], upd (fun _ => none) a (.frz o (.lst (ns.map V.int))), fun _ => none⟩, [], [.scr ns], .bl true, S', sim0 (fun b o e => ?_) (fun b q e => ?_) tabs, reps_cons (rep_scr (.inl ⟨o, (show upd (fun _ => none) a (HO.frz o (HO.lst (ns.map V.int))) a = some (HO.frz o (HO.lst (ns.map V.int))) from upd_same)⟩)) reps_nil, e, fun W' H' v _ _ r => r.bl⟩
    · by_cases hb : b = a
      · subst hb
        rw [upd_same] at e
        cases e
        exact h
      · rw [upd_ne hb] at e
        cases e
    · by_cases hb : b = a
      · subst hb
        have e : upd (fun _ => none) b (HO.frz o (.lst (ns.map V.int))) b = some (.tbl q) := e
        rw [upd_same] at e
        cases e
      · have e : upd (fun _ => none) a (HO.frz o (.lst (ns.map V.int))) b = some (.tbl q) := e
        rw [upd_ne hb] at e
        cases e
  · obtain ⟨S', e⟩ := law_scr (K := K) ns hl
    exact ⟨⟨[], fun _ => none, fun _ => none⟩, [], [.scr ns], .bl true, S', sim0 (fun b o e => by cases e) (fun b q e => by cases e) tabs, reps_cons (rep_scr (.inr h)) reps_nil, e, fun W' H' v _ _ r => r.bl⟩
theorem okF_law {P : Program} {w : World} {K : PySem.W.Frag} {mg : Str → Option Value} {base : Heap} (E : Fx K mg base) {fd : FuncData} (F : FunC K "law" "law" s_law (He.fAd K ("law", none)) fd (He.codeOf K ("law", none))) : FnOk P w K mg base CX0 7 (He.fAd K ("law", none)) fd ["script"] (spD K (TT K) (F_law K)) := by
  obtain ⟨fd__law_box, G__law_box, B__law_box, K__law_box⟩ := ok__law_box (P := P) (w := w) E
  obtain ⟨fd__law_same, G__law_same, B__law_same, K__law_same⟩ := ok__law_same (P := P) (w := w) E
  obtain ⟨fd__law_draw, G__law_draw, B__law_draw, K__law_draw⟩ := ok__law_draw (P := P) (w := w) E
  obtain ⟨fd_fooling_signal, G_fooling_signal, B_fooling_signal, K_fooling_signal⟩ := ok_fooling_signal (P := P) (w := w) E
  obtain ⟨fd__law_is_fooled, G__law_is_fooled, B__law_is_fooled, K__law_is_fooled⟩ := ok__law_is_fooled (P := P) (w := w) E
  obtain ⟨t_LAST_DELAY, c_LAST_DELAY⟩ := E.i_LAST_DELAY
  refine fn_okC F sc_law fun A outer s H E0 hr => ?_
  exact (dss_cons (ds_set (i := 1) sc_law.nd rfl (by first | exact .inl rfl | exact .inr rfl) (de_call G__law_box (hr.mono (by decide : 1 ≤ 6)) rfl E.g__law_box K__law_box B__law_box (da_cons (dv 0) da_nil)))
    (dss_cons (ds_if (dt_not (dt_tru (de_call G__law_same (hr.mono (by decide : 1 ≤ 6)) rfl E.g__law_same K__law_same B__law_same (da_cons (de_gint rfl c_LAST_DELAY) (da_cons de_int da_nil))))) (dss_one (ds_ret de_bl)) dss_nil)
    (dss_cons (ds_for PassesOwn.never rfl (di_rng1 rfl E.z_range de_int) (dg_of (pg_name (i := 2) sc_law.nd rfl (by first | exact .inl rfl | exact .inr rfl))) (dss_cons (ds_set (i := 3) sc_law.nd rfl (by first | exact .inl rfl | exact .inr rfl) (de_ix (de_lst (da_cons de_int (da_cons de_int (da_cons de_int (da_cons de_int da_nil))))) (dv 2)))
    (dss_cons (ds_par3 (i := 4) (j := 5) (l := 6) rfl sc_law.nd rfl rfl rfl (by decide) (by decide) (by decide) rfl rfl rfl (xAdd de_int (de_call G__law_draw (hr.mono (by decide : 2 ≤ 6)) rfl E.g__law_draw K__law_draw B__law_draw (da_cons (dv 1) (da_cons (dv 3) da_nil)))) (de_call G__law_draw (hr.mono (by decide : 2 ≤ 6)) rfl E.g__law_draw K__law_draw B__law_draw (da_cons (dv 1) (da_cons (xAdd (dv 3) de_int) da_nil))) (xAdd de_int (de_call G__law_draw (hr.mono (by decide : 2 ≤ 6)) rfl E.g__law_draw K__law_draw B__law_draw (da_cons (dv 1) (da_cons (dv 3) da_nil)))) (by rfl))
    (dss_cons (ds_set (i := 5) sc_law.nd rfl (by first | exact .inl rfl | exact .inr rfl) (de_if (yEq hr (de_call G__law_draw (hr.mono (by decide : 2 ≤ 6)) rfl E.g__law_draw K__law_draw B__law_draw (da_cons (dv 1) (da_cons de_int da_nil))) de_int) de_int (dv 5)))
    (dss_cons (ds_set (i := 7) sc_law.nd rfl (by first | exact .inl rfl | exact .inr rfl) (de_ix (de_lst (da_cons (xSub (dv 5) de_int) (da_cons (dv 5) (da_cons (xSub (xDiv (dv 4) de_int) de_int) (da_cons (xDiv (dv 4) de_int) (da_cons (xAdd de_int (de_call G__law_draw (hr.mono (by decide : 2 ≤ 6)) rfl E.g__law_draw K__law_draw B__law_draw (da_cons (dv 1) (da_cons (dv 3) da_nil)))) da_nil)))))) (de_call G__law_draw (hr.mono (by decide : 2 ≤ 6)) rfl E.g__law_draw K__law_draw B__law_draw (da_cons (dv 1) (da_cons de_int da_nil)))))
    (dss_cons (ds_par (i := 8) (j := 9) rfl sc_law.nd rfl rfl (by decide) rfl rfl (de_cb ok_max2 (call_max2 rfl) rfl E.z_max (by decide +kernel) (da_cons de_int (da_cons (dv 7) da_nil))) (de_tup (da_cons (dv 4) (da_cons (dv 5) (da_cons (dv 6) da_nil)))) (by rfl))
    (dss_cons (ds_set (i := 10) sc_law.nd rfl (by first | exact .inl rfl | exact .inr rfl) (de_call G_fooling_signal (hr.mono (by decide : 2 ≤ 6)) rfl E.g_fooling_signal K_fooling_signal B_fooling_signal (da_cons (dv 9) (da_cons (dv 8) da_nil))))
    (dss_one (ds_if (dt_w (dw_and (yGe (dv 8) (dv 5)) (dw_and1 (yGt (xAdd (xMul de_int (dv 8)) de_int) (dv 4))))) (dss_one (ds_if (yIsNot (dv 10) de_non) (dss_one (ds_ret de_bl)) dss_nil)) (dss_one (ds_if (dt_not (dt_tru (de_call G__law_is_fooled (hr.mono (by decide : 6 ≤ 6)) rfl E.g__law_is_fooled K__law_is_fooled B__law_is_fooled (da_cons (dv 9) (da_cons (dv 8) (da_cons (dv 10) da_nil)))))) (dss_one (ds_ret de_bl)) dss_nil)))))))))))
    (dss_one (ds_ret de_bl)))))
theorem run (w : World) : HandSHeadRun.RunEq R (PySem.W.view R.prog [36]) hk ob 4000 looseL w := by
  intro os
  kernel_rfl
theorem law_at {w : World} {K : PySem.W.Frag} {h : Heap} {mg : Str → Option Value} {fa : Addr} (X : K.In h) (G : h.Ns mainGlobals mg) (hfa : mg ("law" : Str) = some (.ref fa)) (c : He.SaysX faL fnL [] tfL (fun _ => true) w h K) : LamX.LawAtS PySem.Challenge.rw_keystotext_k51_whole_fooled w K CX0 7 63 "script" mg fa h := by
  have e := hfa.symm.trans (He.glo_ok X G (c.t.d.fact 41 (f := .glo "law") rfl))
  cases e
  obtain ⟨fd, F⟩ := c.t.d.def_ 29 (d := dD_law) rfl
  have b := FunD.bindsA (ps := ["script"]) F fun _ _ _ _ _ _ us hl => match us, hl with | [_], _ => rfl
  refine ⟨fd, tfL.map (He.cT K), spD K (TT K) (F_law K), fun p hp => ?_, fun p hp => ?_, fun p hp => ?_, fun s u => b s [u] rfl, fun H a ns hl _ hT hS => promise hl hT hS, fun base Xb Gb tb => okF_law (fx_of Xb Gb c fun p hp => (let t := tb _ (List.mem_map_of_mem hp); ⟨t.code, t.bm, t.gP⟩)) (funC_of F)⟩
  · obtain ⟨q, hq, e⟩ := List.mem_map.mp hp
    subst e
    exact c.empty q hq
  · obtain ⟨q, hq, e⟩ := List.mem_map.mp hp
    subst e
    exact c.out q hq
  · obtain ⟨q, hq, e⟩ := List.mem_map.mp hp
    subst e
    exact PySem.W.codeHd_of_K X (c.hd q hq)
end K51
open PySem PySem.W PySem.Calls PyProof.Rows
theorem PySem.Challenge.cw_keystotext_k51_whole_fooled_holds : PySem.Challenge.rw_keystotext_k51_whole_fooled.Holds := by
  w_on; o_law
  refine HandSHeadRun.head_any (r := OpenLaw.row PySem.Challenge.rw_keystotext_k51_whole_fooled) (q := view (OpenLaw.row PySem.Challenge.rw_keystotext_k51_whole_fooled).prog [36]) (H := K51.hk) (ob := K51.ob) (M := 4000) (loose := K51.looseL) (d := HandSHeadRun.topDef (OpenLaw.row PySem.Challenge.rw_keystotext_k51_whole_fooled).prog 36) (kwd := []) K51.ob_eq
    (by kernel_rfl) (fun s => by kernel_rfl) K51.run (by kernel_rfl) (by kernel_rfl) (by kernel_rfl) (by rfl) (by first | assumption | decide +kernel) (by decide +kernel) ⟨rfl, rfl, rfl, rfl, rfl, by decide +kernel⟩ ?hw ?hc
  case hw => w_witness2
  case hc =>
    refine LamX.walk_ofTsE (l := PySem.Challenge.rw_keystotext_k51_whole_fooled) (n := 63) (k := 7) (x := "script") (CX := fun _ => L2.CX0) rfl (by decide) (by kernel_rfl) ⟨rfl, by decide, by decide⟩ ?F (fun _ _ _ _ _ z => z)
    intro w mg fa h Y G hmg0
    obtain ⟨K, KX, c⟩ := Y
    have hmg : mg ("law" : PySem.Str) = some (.ref fa) := by
      have e : (HandSHeadRun.topDef (OpenLaw.row PySem.Challenge.rw_keystotext_k51_whole_fooled).prog 36).name = ("law" : PySem.Str) := by kernel_rfl
      rw [← e]
      exact hmg0
    exact ⟨K, KX, K51.law_at KX G hmg c⟩
