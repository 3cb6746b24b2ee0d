import PyProof.Rows.All
import Wide.All
import OpenK.AllK
import Wide.FinOn
import KE.KStateDown
import HandS.ForMost
import HandS.More
import HandS.WordsExc
import HandS.Defaults
import HandS.Evl
import HandS.Flow
import HandS.IsInst
import HandS.Strs
import HandS.HeadHook1
import HandS.Lambda
import HandS.TupAny
import HandS.Deep
import KE.GoesEnum
import HandS.NoneIn
import HandS.Style
import HandS.Sort
import HandS.DictComp
import HandS.ExcInit
import KE.KExcSuper
import HandS.HeadHook4
import HandS.ExcField
import HandS.SortRule
import HandS.Conv
import KE.KDictKeyed
import HandS.Zip
import PySem.Challenge.RW_seatroads_k25_rows_told
import HandS.Head0
import HandS.Head1
import HandS.Head2
import HandS.HeadEnd
import HandS.HeadWalk
import HandS.HeadHook2
import HandS.HeadHook3
set_option Elab.async false
set_option linter.all false
set_option maxRecDepth 100000
namespace DL
open PySem L2

/-- plain data -/
inductive D where
  | non | bl (b : Bool) | int (i : Int) | str (s : Str) | lst (xs : List D) | tup (xs : List D)
  | dk (kvs : List (Key × D)) | dt (kvs : List (List Key × D)) | ins (C : Str) (fs : List (Str × D)) | scr (ns : List Int) | kt (xs : List D)

mutual
/-- the value v stands for the data d over the heap H -/
inductive Rep (K : PySem.W.Frag) (H : Hp) : V → D → Prop
  | non : Rep K H .non .non
  | bl (b : Bool) : Rep K H (.bl b) (.bl b)
  | int (i : Int) : Rep K H (.int i) (.int i)
  | str (s : Str) : Rep K H (.str s) (.str s)
  | lst {a : Addr} {vs : List V} {ds : List D} : H a = some (.lst vs) → Reps K H vs ds → Rep K H (.ref a) (.lst ds)
  | tup {a : Addr} {vs : List V} {ds : List D} : H a = some (.tup vs) → Reps K H vs ds → Rep K H (.ref a) (.tup ds)
  | kt {a : Addr} {vs : List V} {ds : List D} : SqT K H a vs → Reps K H vs ds → Rep K H (.ref a) (.kt ds)
  | dk {a : Addr} {kvs : List (Key × V)} {ps : List (Key × D)} : Rd H a (.dK kvs) → kvs.map (·.1) = ps.map (·.1) → Reps K H (kvs.map (·.2)) (ps.map (·.2)) → Rep K H (.ref a) (.dk ps)
  | dt {a : Addr} {kvs : List (List Key × V)} {ps : List (List Key × D)} : Rd H a (.dT kvs) → kvs.map (·.1) = ps.map (·.1) → Reps K H (kvs.map (·.2)) (ps.map (·.2)) → Rep K H (.ref a) (.dt ps)
  | ins {a dx : Addr} {C : Str} {fs : List (Str × V)} {ps : List (Str × D)} : H a = some (.ins (He.ga K C) dx fs) → fs.map (·.1) = ps.map (·.1) → Reps K H (fs.map (·.2)) (ps.map (·.2)) → Rep K H (.ref a) (.ins C ps)
  | scr {a : Addr} {ns : List Int} : SqL K H a (ns.map V.int) → Rep K H (.ref a) (.scr ns)
inductive Reps (K : PySem.W.Frag) (H : Hp) : List V → List D → Prop
  | nil : Reps K H [] []
  | cons {v : V} {vs : List V} {d : D} {ds : List D} : Rep K H v d → Reps K H vs ds → Reps K H (v :: vs) (d :: ds)
end

/-- what stood stands -/
def Ex (H H' : Hp) : Prop := ∀ a o, H a = some o → H' a = some o
theorem Ex.refl (H : Hp) : Ex H H := fun _ _ h => h
theorem Ex.trans {H H1 H2 : Hp} (a : Ex H H1) (b : Ex H1 H2) : Ex H H2 := fun x o h => b x o (a x o h)
theorem Ex.new {H : Hp} {p : Addr} {o : HO} (h : H p = none) : Ex H (upd H p o) := fun a u e => by
  rw [upd_ne (ne_of_none e h)]
  exact e
theorem Ex.upd {G H : Hp} {p : Addr} {o : HO} (e : Ex G H) : Ex (upd G p o) (upd H p o) := fun a u q => by
  by_cases h : a = p
  · subst h; rw [upd_same] at q ⊢; exact q
  · rw [upd_ne h] at q ⊢; exact e a u q
theorem Ex.none {G H : Hp} (e : Ex G H) {a : Addr} (h : H a = Option.none) : G a = Option.none := by
  cases q : G a with
  | none => rfl
  | some o => rw [e a o q] at h; cases h
/-- as far as it is read -/
def RdX (H H' : Hp) : Prop := (∀ a u, (match u with | .lst _ => True | .tup _ => True | .dK _ => True | .dT _ => True | _ => False) → Rd H a u → Rd H' a u) ∧ (∀ a C dx fs, H a = some (.ins C dx fs) → H' a = some (.ins C dx fs)) ∧ (∀ a xs, H a = some (.lst xs) → H' a = some (.lst xs)) ∧ ∀ a xs, H a = some (.tup xs) → H' a = some (.tup xs)
theorem Ex.rdx {H H' : Hp} (e : Ex H H') : RdX H H' := by
  refine ⟨fun a u _ h => ?_, fun a C dx fs h => e _ _ h, fun a xs h => e _ _ h, fun a xs h => e _ _ h⟩
  rcases h with h | ⟨o, h⟩
  · exact .inl (e a _ h)
  · exact .inr ⟨o, e a _ h⟩
theorem RdX.sqL {K : PySem.W.Frag} {H H' : Hp} {a : Addr} {xs : List V} (e : RdX H H') (h : SqL K H a xs) : SqL K H' a xs := by
  rcases h with h | h
  · exact .inl (e.1 a _ trivial h)
  · exact .inr h
theorem RdX.sqT {K : PySem.W.Frag} {H H' : Hp} {a : Addr} {xs : List V} (e : RdX H H') (h : SqT K H a xs) : SqT K H' a xs := by
  rcases h with h | h
  · exact .inl (e.1 a _ trivial h)
  · exact .inr h
mutual
theorem Rep.rdx {K : PySem.W.Frag} {H H' : Hp} (e : RdX H H') : ∀ {v : V} {d : D}, Rep K H v d → Rep K H' v d
  | _, _, .non => .non
  | _, _, .bl b => .bl b
  | _, _, .int i => .int i
  | _, _, .str s => .str s
  | _, _, .lst h r => .lst (e.2.2.1 _ _ h) (Reps.rdx e r)
  | _, _, .tup h r => .tup (e.2.2.2 _ _ h) (Reps.rdx e r)
  | _, _, .kt h r => .kt (e.sqT h) (Reps.rdx e r)
  | _, _, .dk h k r => .dk (e.1 _ _ trivial h) k (Reps.rdx e r)
  | _, _, .dt h k r => .dt (e.1 _ _ trivial h) k (Reps.rdx e r)
  | _, _, .ins h k r => .ins (e.2.1 _ _ _ _ h) k (Reps.rdx e r)
  | _, _, .scr h => .scr (e.sqL h)
theorem Reps.rdx {K : PySem.W.Frag} {H H' : Hp} (e : RdX H H') : ∀ {vs : List V} {ds : List D}, Reps K H vs ds → Reps K H' vs ds
  | _, _, .nil => .nil
  | _, _, .cons h r => .cons (Rep.rdx e h) (Reps.rdx e r)
end
theorem Rep.mono {K : PySem.W.Frag} {H H' : Hp} {v : V} {d : D} (h : Rep K H v d) (e : Ex H H') : Rep K H' v d := h.rdx e.rdx
theorem Reps.mono {K : PySem.W.Frag} {H H' : Hp} {vs : List V} {ds : List D} (h : Reps K H vs ds) (e : Ex H H') : Reps K H' vs ds := h.rdx e.rdx
section
variable {K : PySem.W.Frag} {H : Hp}
theorem Reps.length : ∀ {vs : List V} {ds : List D}, Reps K H vs ds → vs.length = ds.length
  | _, _, .nil => rfl
  | _, _, .cons _ r => by simp [Reps.length r]
theorem Reps.get : ∀ {vs : List V} {ds : List D} {i : Nat} {d : D}, Reps K H vs ds → ds[i]? = some d → ∃ v, vs[i]? = some v ∧ Rep K H v d
  | _, _, _, _, .nil, e => by simp at e
  | _, _, 0, _, .cons h _, e => by simp at e; subst e; exact ⟨_, rfl, h⟩
  | _, _, i + 1, _, .cons _ r, e => by
    obtain ⟨v, h1, h2⟩ := Reps.get (i := i) r (by simpa using e)
    exact ⟨v, by simpa using h1, h2⟩
theorem Reps.getV : ∀ {vs : List V} {ds : List D} {i : Nat} {v : V}, Reps K H vs ds → vs[i]? = some v → ∃ d, ds[i]? = some d ∧ Rep K H v d
  | _, _, _, _, .nil, e => by simp at e
  | _, _, 0, _, .cons h _, e => by simp at e; subst e; exact ⟨_, rfl, h⟩
  | _, _, i + 1, _, .cons _ r, e => by
    obtain ⟨v, h1, h2⟩ := Reps.getV (i := i) r (by simpa using e)
    exact ⟨v, by simpa using h1, h2⟩
theorem Reps.append : ∀ {vs ws : List V} {ds es : List D}, Reps K H vs ds → Reps K H ws es → Reps K H (vs ++ ws) (ds ++ es)
  | _, _, _, _, .nil, s => s
  | _, _, _, _, .cons h r, s => .cons h (Reps.append r s)
theorem Reps.take : ∀ {vs : List V} {ds : List D} (n : Nat), Reps K H vs ds → Reps K H (vs.take n) (ds.take n)
  | _, _, 0, _ => .nil
  | _, _, _ + 1, .nil => .nil
  | _, _, n + 1, .cons h r => .cons h (Reps.take n r)
theorem Reps.drop : ∀ {vs : List V} {ds : List D} (n : Nat), Reps K H vs ds → Reps K H (vs.drop n) (ds.drop n)
  | _, _, 0, r => r
  | _, _, _ + 1, .nil => .nil
  | _, _, n + 1, .cons _ r => Reps.drop n r
theorem Reps.set {v : V} {d : D} (h : Rep K H v d) : ∀ {vs : List V} {ds : List D} (i : Nat), Reps K H vs ds → Reps K H (vs.set i v) (ds.set i d)
  | _, _, _, .nil => .nil
  | _, _, 0, .cons _ r => .cons h r
  | _, _, i + 1, .cons q r => .cons q (Reps.set h i r)
theorem Reps.eraseIdx : ∀ {vs : List V} {ds : List D} (i : Nat), Reps K H vs ds → Reps K H (vs.eraseIdx i) (ds.eraseIdx i)
  | _, _, _, .nil => .nil
  | _, _, 0, .cons _ r => r
  | _, _, i + 1, .cons q r => .cons q (Reps.eraseIdx i r)
theorem Reps.nil_inv {vs : List V} (h : Reps K H vs []) : vs = [] := by cases h; rfl
theorem Reps.cons_inv {vs : List V} {d : D} {ds : List D} (h : Reps K H vs (d :: ds)) : ∃ v ws, vs = v :: ws ∧ Rep K H v d ∧ Reps K H ws ds := by
  cases h with | cons a b => exact ⟨_, _, rfl, a, b⟩
theorem Reps.one {vs : List V} {d : D} (h : Reps K H vs [d]) : ∃ v, vs = [v] ∧ Rep K H v d := by
  obtain ⟨v, ws, rfl, a, b⟩ := h.cons_inv
  rw [b.nil_inv]
  exact ⟨v, rfl, a⟩
theorem Reps.two {vs : List V} {d e : D} (h : Reps K H vs [d, e]) : ∃ v w, vs = [v, w] ∧ Rep K H v d ∧ Rep K H w e := by
  obtain ⟨v, ws, rfl, a, b⟩ := h.cons_inv
  obtain ⟨w, rfl, c⟩ := b.one
  exact ⟨v, w, rfl, a, c⟩
end

/-! ### the frame F, what is shared G, the heap H -/
/-- no tuple -/
def NT (o : HO) : Prop := ∀ vs, o ≠ .tup vs
theorem nt_mut {u : HO} (h : Mut (some u)) : NT u := fun vs e => by subst e; exact h
structure Wd (F G H : Hp) : Prop where
  f : Ex F H
  g : Ex G H
  fg : ∀ a o, F a = some o → G a = none
  ft : ∀ a vs, F a ≠ some (.tup vs)

/-- what is known of a slot: nothing; shared data; an object of one's own; the state of draws; a pair of two own lists of texts -/
inductive Sl where
  | un | sh (d : D) | own (a : Addr) (d : D) | drw (a : Addr) | two (k m : Addr) (xs ys : List Str) | tab (d : D) (P : Addr) (q : Str)
abbrev Env := List Sl

def OwnR (K : PySem.W.Frag) (G : Hp) (o : Option HO) : D → Prop
  | .lst ds => ∃ vs, o = some (.lst vs) ∧ Reps K G vs ds
  | .dk ps => ∃ kvs, o = some (.dK kvs) ∧ kvs.map (·.1) = ps.map (·.1) ∧ Reps K G (kvs.map (·.2)) (ps.map (·.2))
  | .dt ps => ∃ kvs, o = some (.dT kvs) ∧ kvs.map (·.1) = ps.map (·.1) ∧ Reps K G (kvs.map (·.2)) (ps.map (·.2))
  | .ins C ps => ∃ dx fs, o = some (.ins (He.ga K C) dx fs) ∧ fs.map (·.1) = ps.map (·.1) ∧ Reps K G (fs.map (·.2)) (ps.map (·.2))
  | _ => False
theorem OwnR.mono {K : PySem.W.Frag} {G G' : Hp} {o : Option HO} {d : D} (h : OwnR K G o d) (x : Ex G G') : OwnR K G' o d := by
  cases d with
  | lst _ => obtain ⟨vs, e, r⟩ := h; exact ⟨vs, e, r.mono x⟩
  | dk _ => obtain ⟨vs, e, k, r⟩ := h; exact ⟨vs, e, k, r.mono x⟩
  | dt _ => obtain ⟨vs, e, k, r⟩ := h; exact ⟨vs, e, k, r.mono x⟩
  | ins _ _ => obtain ⟨dx, vs, e, k, r⟩ := h; exact ⟨dx, vs, e, k, r.mono x⟩
  | _ => exact h.elim
theorem OwnR.some {K : PySem.W.Frag} {G : Hp} {o : Option HO} {d : D} (h : OwnR K G o d) : ∃ u, o = some u ∧ Mut (some u) := by
  cases d with
  | lst _ => obtain ⟨vs, e, r⟩ := h; exact ⟨_, e, trivial⟩
  | dk _ => obtain ⟨vs, e, k, r⟩ := h; exact ⟨_, e, trivial⟩
  | dt _ => obtain ⟨vs, e, k, r⟩ := h; exact ⟨_, e, trivial⟩
  | ins _ _ => obtain ⟨dx, vs, e, k, r⟩ := h; exact ⟨_, e, trivial⟩
  | _ => exact h.elim
/-- the state of draws: three ints -/
def DrwR (o : Option HO) : Prop := ∃ x y z : Int, o = Option.some (.lst [.int x, .int y, .int z])
def SlotOk (K : PySem.W.Frag) (F G H : Hp) (s : Option V) : Sl → Prop
  | .un => True
  | .sh d => ∃ v, s = some v ∧ Rep K G v d
  | .own a d => s = some (.ref a) ∧ G a = none ∧ F a = none ∧ OwnR K G (H a) d
  | .drw a => s = some (.ref a) ∧ G a = none ∧ F a = none ∧ DrwR (H a)
  | .two k m xs ys => (∃ t, s = some (.ref t) ∧ G t = some (.tup [.ref k, .ref m])) ∧ G k = none ∧ F k = none ∧ G m = none ∧ F m = none ∧ H k = some (.lst (xs.map V.str)) ∧ H m = some (.lst (ys.map V.str))
  | .tab d P q => (∃ v, s = some v ∧ Rep K G v d) ∧ G P = none ∧ F P = none ∧ ∃ ps, H P = some (.tbl ps) ∧ TriplesOk ps.toList ∧ ∀ (pos : Pos) (cv : Value), codeAmong pos ps.toList = some cv → ∃ c, cv = .ref c ∧ G c = some (LamX.CodeO c q)
/-- the addresses that are a slot's own -/
def Sl.adr : Sl → List Addr
  | .own a _ => [a]
  | .drw a => [a]
  | .two k m _ _ => [k, m]
  | .tab _ P _ => [P]
  | _ => []
def ownA (ρ : Env) : List Addr := ρ.flatMap Sl.adr
def Slots (K : PySem.W.Frag) (F G H : Hp) : L2.St → Env → Prop
  | [], [] => True
  | s :: σ, r :: ρ => SlotOk K F G H s r ∧ Slots K F G H σ ρ
  | _, _ => False
structure RE (K : PySem.W.Frag) (F G H : Hp) (σ : L2.St) (ρ : Env) : Prop where
  wd : Wd F G H
  sl : Slots K F G H σ ρ
  nd : (ownA ρ).Nodup
section
variable {K : PySem.W.Frag} {F F' G H G' H' : Hp} {σ : L2.St} {ρ : Env} {s : Option V} {r : Sl}
theorem SlotOk.own (h : SlotOk K F G H s r) {a : Addr} (m : a ∈ r.adr) : G a = none ∧ F a = none ∧ ∃ u, H a = some u ∧ NT u := by
  cases r with
  | un => cases m
  | sh d => cases m
  | own b d =>
    obtain ⟨_, h1, h2, h3⟩ := h
    rw [List.mem_singleton.mp m]
    obtain ⟨u, h4, h5⟩ := h3.some
    exact ⟨h1, h2, u, h4, nt_mut h5⟩
  | drw b =>
    obtain ⟨_, h1, h2, x, y, z, h3⟩ := h
    rw [List.mem_singleton.mp m]
    exact ⟨h1, h2, _, h3, fun _ z => nomatch z⟩
  | two k l xs ys =>
    obtain ⟨_, h1, h2, h3, h4, h5, h6⟩ := h
    rcases List.mem_cons.mp m with e | m
    · rw [e]; exact ⟨h1, h2, _, h5, fun _ z => nomatch z⟩
    · rw [List.mem_singleton.mp m]; exact ⟨h3, h4, _, h6, fun _ z => nomatch z⟩
  | tab d P q =>
    obtain ⟨_, h1, h2, ps, h3, _⟩ := h
    rw [List.mem_singleton.mp m]
    exact ⟨h1, h2, _, h3, fun _ z => nomatch z⟩
theorem SlotOk.step (h : SlotOk K F G H s r) (e : Ex G G') (k : ∀ a ∈ r.adr, H' a = H a ∧ G' a = none) : SlotOk K F G' H' s r := by
  cases r with
  | un => trivial
  | sh d => obtain ⟨v, h1, h2⟩ := h; exact ⟨v, h1, h2.mono e⟩
  | own b d =>
    obtain ⟨h0, h1, h2, h3⟩ := h
    have kb := k b (List.mem_singleton.mpr rfl)
    exact ⟨h0, kb.2, h2, by rw [kb.1]; exact h3.mono e⟩
  | drw b =>
    obtain ⟨h0, h1, h2, h3⟩ := h
    have kb := k b (List.mem_singleton.mpr rfl)
    exact ⟨h0, kb.2, h2, by rw [kb.1]; exact h3⟩
  | two p q xs ys =>
    obtain ⟨⟨t, h0, ht⟩, h1, h2, h3, h4, h5, h6⟩ := h
    have kp := k p List.mem_cons_self
    have kq := k q (List.mem_cons_of_mem _ (List.mem_singleton.mpr rfl))
    exact ⟨⟨t, h0, e _ _ ht⟩, kp.2, h2, kq.2, h4, by rw [kp.1]; exact h5, by rw [kq.1]; exact h6⟩
  | tab d P q =>
    obtain ⟨⟨v, h0, h00⟩, h1, h2, ps, h3, h4, h5⟩ := h
    have kp := k P (List.mem_singleton.mpr rfl)
    exact ⟨⟨v, h0, h00.mono e⟩, kp.2, h2, ps, by rw [kp.1]; exact h3, h4, fun pos cv hc => by
      obtain ⟨c, e1, e2⟩ := h5 pos cv hc
      exact ⟨c, e1, e _ _ e2⟩⟩
theorem SlotOk.frm (h : SlotOk K F G H s r) (k : ∀ a ∈ r.adr, F' a = none) : SlotOk K F' G H s r := by
  cases r with
  | un => trivial
  | sh d => exact h
  | own b d => obtain ⟨h0, h1, h2, h3⟩ := h; exact ⟨h0, h1, k b (List.mem_singleton.mpr rfl), h3⟩
  | drw b => obtain ⟨h0, h1, h2, h3⟩ := h; exact ⟨h0, h1, k b (List.mem_singleton.mpr rfl), h3⟩
  | two p q xs ys =>
    obtain ⟨h0, h1, h2, h3, h4, h5, h6⟩ := h
    exact ⟨h0, h1, k p List.mem_cons_self, h3, k q (List.mem_cons_of_mem _ (List.mem_singleton.mpr rfl)), h5, h6⟩
  | tab d P q => obtain ⟨h0, h1, h2, h3⟩ := h; exact ⟨h0, h1, k P (List.mem_singleton.mpr rfl), h3⟩
theorem ownA_cons : ownA (r :: ρ) = r.adr ++ ownA ρ := List.flatMap_cons
theorem Slots.length : ∀ {σ : L2.St} {ρ : Env}, Slots K F G H σ ρ → σ.length = ρ.length
  | [], [], _ => rfl
  | [], _ :: _, h => h.elim
  | _ :: _, [], h => h.elim
  | _ :: _, _ :: _, h => by simp [Slots.length h.2]
theorem Slots.get : ∀ {σ : L2.St} {ρ : Env} {i : Nat} {r : Sl}, Slots K F G H σ ρ → ρ[i]? = some r → ∃ s, σ[i]? = some s ∧ SlotOk K F G H s r
  | [], [], _, _, _, e => by simp at e
  | [], _ :: _, _, _, h, _ => h.elim
  | _ :: _, [], _, _, h, _ => h.elim
  | s :: σ, r :: ρ, 0, _, h, e => by simp at e; subst e; exact ⟨s, rfl, h.1⟩
  | s :: σ, r :: ρ, i + 1, _, h, e => by
    obtain ⟨s', h1, h2⟩ := Slots.get (i := i) h.2 (by simpa using e)
    exact ⟨s', by simpa using h1, h2⟩
/-- slot by slot -/
theorem Slots.map {F' G' H' : Hp} : ∀ {σ : L2.St} {ρ : Env}, Slots K F G H σ ρ → (∀ (i : Nat) s r, σ[i]? = some s → ρ[i]? = some r → SlotOk K F G H s r → SlotOk K F' G' H' s r) → Slots K F' G' H' σ ρ
  | [], [], _, _ => trivial
  | [], _ :: _, h, _ => h.elim
  | _ :: _, [], h, _ => h.elim
  | s :: σ, r :: ρ, h, k => ⟨k 0 s r rfl rfl h.1, Slots.map h.2 fun i s' r' hs hr => k (i + 1) s' r' (by simpa using hs) (by simpa using hr)⟩
theorem adr_mem {i : Nat} {a : Addr} (h : ρ[i]? = some r) (m : a ∈ r.adr) : a ∈ ownA ρ := List.mem_flatMap.mpr ⟨r, List.mem_of_getElem? h, m⟩
/-- an address that the slots call theirs -/
theorem Slots.own : ∀ {σ : L2.St} {ρ : Env} {a : Addr}, Slots K F G H σ ρ → a ∈ ownA ρ → G a = none ∧ F a = none ∧ ∃ u, H a = some u ∧ NT u
  | [], [], _, _, m => by cases m
  | [], _ :: _, _, h, _ => h.elim
  | _ :: _, [], _, h, _ => h.elim
  | s :: σ, r :: ρ, a, h, m => by
    rw [ownA_cons] at m
    rcases List.mem_append.mp m with m | m
    · exact h.1.own m
    · exact Slots.own h.2 m
/-- slots stay where what is shared grows, and what is theirs is kept -/
theorem Slots.step (e : Ex G G') (k : ∀ a, a ∈ ownA ρ → H' a = H a ∧ G' a = none) (h : Slots K F G H σ ρ) : Slots K F G' H' σ ρ :=
  h.map fun i s r _ hr q => q.step e fun a m => k a (adr_mem hr m)
theorem Slots.set {s : Option V} {r : Sl} (hs : SlotOk K F G H s r) : ∀ {σ : L2.St} {ρ : Env} (i : Nat), Slots K F G H σ ρ → Slots K F G H (σ.set i s) (ρ.set i r)
  | [], [], _, _ => trivial
  | [], _ :: _, _, h => h.elim
  | _ :: _, [], _, h => h.elim
  | _ :: _, _ :: _, 0, h => ⟨hs, h.2⟩
  | _ :: _, _ :: _, i + 1, h => ⟨h.1, Slots.set hs i h.2⟩
theorem ownA_set0 (hr : r.adr = []) : ∀ {ρ : Env} (i : Nat), (ownA (ρ.set i r)).Sublist (ownA ρ)
  | [], _ => List.Sublist.refl _
  | r0 :: ρ, 0 => by
    show (ownA (r :: ρ)).Sublist _
    rw [ownA_cons, ownA_cons, hr]
    exact List.sublist_append_right _ _
  | r0 :: ρ, i + 1 => by
    show (ownA (r0 :: ρ.set i r)).Sublist _
    rw [ownA_cons, ownA_cons]
    exact (ownA_set0 hr i).append_left _
/-- a slot's addresses become fewer -/
theorem ownA_setr {r r' : Sl} (ha : r'.adr.Sublist r.adr) : ∀ {ρ : Env} {i : Nat}, ρ[i]? = some r → (ownA (ρ.set i r')).Sublist (ownA ρ)
  | [], _, e => by simp at e
  | r0 :: ρ, 0, e => by
    simp at e; subst e
    show (ownA (r' :: ρ)).Sublist _
    rw [ownA_cons, ownA_cons]
    exact ha.append_right _
  | r0 :: ρ, i + 1, e => by
    show (ownA (r0 :: ρ.set i r')).Sublist _
    rw [ownA_cons, ownA_cons]
    exact (ownA_setr ha (by simpa using e)).append_left _
theorem RE.setSh {v : V} {d : D} (R : RE K F G H σ ρ) (hv : Rep K G v d) (i : Nat) : RE K F G H (σ.set i (some v)) (ρ.set i (.sh d)) :=
  ⟨R.wd, R.sl.set (r := .sh d) ⟨v, rfl, hv⟩ i, List.Nodup.sublist (ownA_set0 rfl i) R.nd⟩
theorem RE.setUn {s : Option V} (R : RE K F G H σ ρ) (i : Nat) : RE K F G H (σ.set i s) (ρ.set i .un) :=
  ⟨R.wd, R.sl.set (r := .un) trivial i, List.Nodup.sublist (ownA_set0 rfl i) R.nd⟩
/-- a new shared object -/
theorem RE.new {p : Addr} {o : HO} (R : RE K F G H σ ρ) (h : H p = none) : RE K F (upd G p o) (upd H p o) σ ρ := by
  refine ⟨⟨fun a u e => ?_, R.wd.g.upd, fun a u e => ?_, R.wd.ft⟩, R.sl.step (Ex.new (R.wd.g.none h)) (fun a m => ?_), R.nd⟩
  · exact (Ex.new h) a u (R.wd.f a u e)
  · rw [upd_ne (ne_of_none (R.wd.f a u e) h)]; exact R.wd.fg a u e
  · obtain ⟨h1, h2, u, h3, _⟩ := R.sl.own m
    have ne := ne_of_none h3 h
    rw [upd_ne ne, upd_ne ne]
    exact ⟨rfl, h1⟩
end

/-! ### readings over data -/
section
variable {K : PySem.W.Frag}
def EvW (K : PySem.W.Frag) (te : TE) (ρ : Env) (Q : D → Env → Prop) : Prop := ∀ F G H σ, RE K F G H σ ρ → ∀ Q' : VK,
  (∀ v d ρ' G' H', Ex G G' → RE K F G' H' σ ρ' → Rep K G' v d → Q d ρ' → Q' v H') → te σ H Q'
/-- a new object that nobody else knows -/
def EvN (K : PySem.W.Frag) (te : TE) (ρ : Env) (Q : D → Env → Prop) : Prop := ∀ F G H σ, RE K F G H σ ρ → ∀ Q' : VK,
  (∀ p d ρ' G' H', Ex G G' → RE K F G' H' σ ρ' → G' p = none → F p = none → p ∉ ownA ρ' → OwnR K G' (H' p) d → Q d ρ' → Q' (.ref p) H') → te σ H Q'
def EvT (K : PySem.W.Frag) (tt : TT) (ρ : Env) (Q : Bool → Env → Prop) : Prop := ∀ F G H σ, RE K F G H σ ρ → ∀ Q' : Bool → Hp → Prop,
  (∀ b ρ' G' H', Ex G G' → RE K F G' H' σ ρ' → Q b ρ' → Q' b H') → tt σ H Q'
def EvA (K : PySem.W.Frag) (ta : TA) (ρ : Env) (Q : List D → Env → Prop) : Prop := ∀ F G H σ, RE K F G H σ ρ → ∀ Q' : List V → Hp → Prop,
  (∀ vs ds ρ' G' H', Ex G G' → RE K F G' H' σ ρ' → Reps K G' vs ds → Q ds ρ' → Q' vs H') → ta σ H Q'
def EvO (K : PySem.W.Frag) (to : TO) (ρ : Env) (Q : Option Int → Env → Prop) : Prop := ∀ F G H σ, RE K F G H σ ρ → ∀ Q' : Option Int → Hp → Prop,
  (∀ o ρ' G' H', Ex G G' → RE K F G' H' σ ρ' → Q o ρ' → Q' o H') → to σ H Q'
/-- an operation on values: one, two, many -/
def Op1 (K : PySem.W.Frag) (r : V → Hp → VK → Prop) (x : D) (ρ : Env) (Q : D → Env → Prop) : Prop := ∀ F G H σ, RE K F G H σ ρ → ∀ v, Rep K G v x → ∀ Q' : VK,
  (∀ z d ρ' G' H', Ex G G' → RE K F G' H' σ ρ' → Rep K G' z d → Q d ρ' → Q' z H') → r v H Q'
def Op2 (K : PySem.W.Frag) (r : R2) (x y : D) (ρ : Env) (Q : D → Env → Prop) : Prop := ∀ F G H σ, RE K F G H σ ρ → ∀ v w, Rep K G v x → Rep K G w y → ∀ Q' : VK,
  (∀ z d ρ' G' H', Ex G G' → RE K F G' H' σ ρ' → Rep K G' z d → Q d ρ' → Q' z H') → r v w H Q'
def OpA (K : PySem.W.Frag) (r : List V → Hp → VK → Prop) (xs : List D) (ρ : Env) (Q : D → Env → Prop) : Prop := ∀ F G H σ, RE K F G H σ ρ → ∀ vs, Reps K G vs xs → ∀ Q' : VK,
  (∀ z d ρ' G' H', Ex G G' → RE K F G' H' σ ρ' → Rep K G' z d → Q d ρ' → Q' z H') → r vs H Q'
/-- .. that gives a new object -/
def OpN (K : PySem.W.Frag) (r : List V → Hp → VK → Prop) (xs : List D) (ρ : Env) (Q : D → Env → Prop) : Prop := ∀ F G H σ, RE K F G H σ ρ → ∀ vs, Reps K G vs xs → ∀ Q' : VK,
  (∀ p d ρ' G' H', Ex G G' → RE K F G' H' σ ρ' → G' p = none → F p = none → p ∉ ownA ρ' → OwnR K G' (H' p) d → Q d ρ' → Q' (.ref p) H') → r vs H Q'
variable {te ta tb tc : TE} {tt tu : TT} {ts : TA} {ρ : Env} {Q : D → Env → Prop}
theorem ew_weak {Q₁ : D → Env → Prop} (h : EvW K te ρ Q₁) (w : ∀ d ρ', Q₁ d ρ' → Q d ρ') : EvW K te ρ Q := fun F G H σ R Q' k => h F G H σ R Q' fun v d ρ' G' H' e R' hv q => k v d ρ' G' H' e R' hv (w d ρ' q)
theorem et_weak {Q Q₁ : Bool → Env → Prop} (h : EvT K tt ρ Q₁) (w : ∀ d ρ', Q₁ d ρ' → Q d ρ') : EvT K tt ρ Q := fun F G H σ R Q' k => h F G H σ R Q' fun v ρ' G' H' e R' q => k v ρ' G' H' e R' (w v ρ' q)
theorem ew_var {i : Nat} {d : D} (h : ρ[i]? = some (.sh d)) (q : Q d ρ) : EvW K (tVar i) ρ Q := fun F G H σ R Q' k => by
  obtain ⟨s, e, v, rfl, hv⟩ := R.sl.get h
  exact ⟨v, e, k v d ρ G H (Ex.refl G) R hv q⟩
theorem ew_int {i : Int} (q : Q (.int i) ρ) : EvW K (tC (.int i)) ρ Q := fun F G H σ R Q' k => k _ _ ρ G H (Ex.refl G) R (.int i) q
theorem ew_str {s : Str} (q : Q (.str s) ρ) : EvW K (tC (.str s)) ρ Q := fun F G H σ R Q' k => k _ _ ρ G H (Ex.refl G) R (.str s) q
theorem ew_bl {b : Bool} (q : Q (.bl b) ρ) : EvW K (tC (.bl b)) ρ Q := fun F G H σ R Q' k => k _ _ ρ G H (Ex.refl G) R (.bl b) q
theorem ew_non (q : Q .non ρ) : EvW K (tC .non) ρ Q := fun F G H σ R Q' k => k _ _ ρ G H (Ex.refl G) R .non q
/-- a constant of the top -/
theorem ew_c {v : V} {d : D} (h : ∀ G, Rep K G v d) (q : Q d ρ) : EvW K (tC v) ρ Q := fun F G H σ R Q' k => k _ _ ρ G H (Ex.refl G) R (h G) q
theorem ew_un {r : V → Hp → VK → Prop} (h : EvW K ta ρ fun x ρ1 => Op1 K r x ρ1 Q) : EvW K (tUn r ta) ρ Q := fun F G H σ R Q' k =>
  h F G H σ R _ fun v x ρ1 G1 H1 e1 R1 hv q => q F G1 H1 σ R1 v hv Q' fun z d ρ' G' H' e' R' hz qz => k z d ρ' G' H' (e1.trans e') R' hz qz
theorem ew_op {r : R2} (h : EvW K ta ρ fun x ρ1 => EvW K tb ρ1 fun y ρ2 => Op2 K r x y ρ2 Q) : EvW K (tOp r ta tb) ρ Q := fun F G H σ R Q' k =>
  h F G H σ R _ fun v x ρ1 G1 H1 e1 R1 hv q1 => q1 F G1 H1 σ R1 _ fun w y ρ2 G2 H2 e2 R2 hw q2 =>
    q2 F G2 H2 σ R2 v w (hv.mono e2) hw Q' fun z d ρ' G' H' e' R' hz qz => k z d ρ' G' H' ((e1.trans e2).trans e') R' hz qz
theorem ea_nil {Q : List D → Env → Prop} (q : Q [] ρ) : EvA K tNil ρ Q := fun F G H σ R Q' k => k [] [] ρ G H (Ex.refl G) R .nil q
theorem ea_cons {Q : List D → Env → Prop} (h : EvW K ta ρ fun x ρ1 => EvA K ts ρ1 fun xs ρ2 => Q (x :: xs) ρ2) : EvA K (tCons ta ts) ρ Q := fun F G H σ R Q' k =>
  h F G H σ R _ fun v x ρ1 G1 H1 e1 R1 hv q1 => q1 F G1 H1 σ R1 _ fun vs xs ρ2 G2 H2 e2 R2 hvs q2 => k _ _ ρ2 G2 H2 (e1.trans e2) R2 (.cons (hv.mono e2) hvs) q2
theorem ew_cb {r : List V → Hp → VK → Prop} (h : EvA K ts ρ fun xs ρ1 => OpA K r xs ρ1 Q) : EvW K (tCB r ts) ρ Q := fun F G H σ R Q' k =>
  h F G H σ R _ fun vs xs ρ1 G1 H1 e1 R1 hv q => q F G1 H1 σ R1 vs hv Q' fun z d ρ' G' H' e' R' hz qz => k z d ρ' G' H' (e1.trans e') R' hz qz
theorem en_cb {r : List V → Hp → VK → Prop} (h : EvA K ts ρ fun xs ρ1 => OpN K r xs ρ1 Q) : EvN K (tCB r ts) ρ Q := fun F G H σ R Q' k =>
  h F G H σ R _ fun vs xs ρ1 G1 H1 e1 R1 hv q => q F G1 H1 σ R1 vs hv Q' fun p d ρ' G' H' e' R' a b c o qz => k p d ρ' G' H' (e1.trans e') R' a b c o qz
/-- what is new may be shared -/
theorem ownR_rep {G G' : Hp} {p : Addr} {o : Option HO} {d : D} (h : OwnR K G o d) (e : G' p = o) (x : Ex G G') : Rep K G' (.ref p) d := by
  cases d with
  | lst _ => obtain ⟨vs, e1, r⟩ := h; exact .lst (e.trans e1) (r.mono x)
  | dk _ => obtain ⟨vs, e1, k, r⟩ := h; exact .dk (.inl (e.trans e1)) k (r.mono x)
  | dt _ => obtain ⟨vs, e1, k, r⟩ := h; exact .dt (.inl (e.trans e1)) k (r.mono x)
  | ins _ _ => obtain ⟨dx, vs, e1, k, r⟩ := h; exact .ins (e.trans e1) k (r.mono x)
  | _ => exact h.elim
theorem RE.share {F G H : Hp} {σ : L2.St} {ρ : Env} (R : RE K F G H σ ρ) {p : Addr} {o : HO} (hp : H p = some o) (hG : G p = none) (hF : F p = none) (hO : p ∉ ownA ρ) : RE K F (upd G p o) H σ ρ := by
  refine ⟨⟨R.wd.f, fun a u e => ?_, fun a u e => ?_, R.wd.ft⟩, R.sl.step (Ex.new hG) (fun a m => ?_), R.nd⟩
  · by_cases q : a = p
    · subst q; rw [upd_same] at e; cases e; exact hp
    · rw [upd_ne q] at e; exact R.wd.g a u e
  · by_cases q : a = p
    · subst q; rw [hF] at e; cases e
    · rw [upd_ne q]; exact R.wd.fg a u e
  · have ne : a ≠ p := fun z => hO (z ▸ m)
    rw [upd_ne ne]
    exact ⟨rfl, (R.sl.own m).1⟩
theorem ew_new (h : EvN K te ρ Q) : EvW K te ρ Q := fun F G H σ R Q' k => h F G H σ R Q' fun p d ρ' G' H' e R' hG hF hO o q => by
  obtain ⟨u, hu, _⟩ := o.some
  refine k (.ref p) d ρ' (upd G' p u) H' (e.trans (Ex.new hG)) (R'.share hu hG hF hO) (ownR_rep o (by rw [upd_same, hu]) (Ex.new hG)) q
theorem ownA_fresh {F G H : Hp} {σ : L2.St} {ρ : Env} (R : RE K F G H σ ρ) {p : Addr} (h : H p = none) : p ∉ ownA ρ := fun m => by
  obtain ⟨_, _, u, e, _⟩ := R.sl.own m
  rw [h] at e; cases e
/-- a new object, nobody's yet -/
theorem RE.alone {F G H : Hp} {σ : L2.St} {ρ : Env} (R : RE K F G H σ ρ) {p : Addr} {o : HO} (h : H p = none) : RE K F G (upd H p o) σ ρ := by
  refine ⟨⟨R.wd.f.trans (Ex.new h), R.wd.g.trans (Ex.new h), R.wd.fg, R.wd.ft⟩, R.sl.step (Ex.refl G) (fun a m => ?_), R.nd⟩
  obtain ⟨h1, h2, u, h3, _⟩ := R.sl.own m
  exact ⟨upd_ne (ne_of_none h3 h), h1⟩
theorem big {n : Nat} (h : n ≤ 100000) : n ≤ sizeLine := Nat.le_trans h (by decide)
theorem bigl {n : Nat} (h : n < 100000) : n < sizeLine := Nat.lt_of_lt_of_le h (by decide)
theorem en_lst (h : EvA K ts ρ fun xs ρ1 => xs.length ≤ 100000 ∧ Q (.lst xs) ρ1) : EvN K (tLst ts) ρ Q := fun F G H σ R Q' k =>
  h F G H σ R _ fun vs xs ρ1 G1 H1 e1 R1 hv q => ⟨by rw [hv.length]; exact big q.1, fun p hp => k p (.lst xs) ρ1 G1 _ e1 (R1.alone hp) (R1.wd.g.none hp) (R1.wd.f.none hp) (ownA_fresh R1 hp) ⟨vs, upd_same, hv⟩ q.2⟩
theorem ew_tup (h : EvA K ts ρ fun xs ρ1 => xs.length ≤ 100000 ∧ Q (.tup xs) ρ1) : EvW K (tTup ts) ρ Q := fun F G H σ R Q' k =>
  h F G H σ R _ fun vs xs ρ1 G1 H1 e1 R1 hv q => ⟨by rw [hv.length]; exact big q.1, fun p hp => k (.ref p) (.tup xs) ρ1 _ _ (e1.trans (Ex.new (R1.wd.g.none hp))) (R1.new hp) (.tup upd_same (hv.mono (Ex.new (R1.wd.g.none hp)))) q.2⟩
theorem en_dnewK (q : Q (.dk []) ρ) : EvN K tDNewK ρ Q := fun F G H σ R Q' k p hp => k p (.dk []) ρ G _ (Ex.refl G) (R.alone hp) (R.wd.g.none hp) (R.wd.f.none hp) (ownA_fresh R hp) ⟨[], upd_same, rfl, .nil⟩ q
theorem en_dnewT (q : Q (.dt []) ρ) : EvN K tDNewT ρ Q := fun F G H σ R Q' k p hp => k p (.dt []) ρ G _ (Ex.refl G) (R.alone hp) (R.wd.g.none hp) (R.wd.f.none hp) (ownA_fresh R hp) ⟨[], upd_same, rfl, .nil⟩ q
/-! tests -/
theorem rep_bl {H : Hp} {v : V} {b : Bool} (h : Rep K H v (.bl b)) : v = .bl b := by cases h; rfl
theorem rep_int {H : Hp} {v : V} {b : Int} (h : Rep K H v (.int b)) : v = .int b := by cases h; rfl
theorem rep_str {H : Hp} {v : V} {b : Str} (h : Rep K H v (.str b)) : v = .str b := by cases h; rfl
theorem rep_non {H : Hp} {v : V} (h : Rep K H v .non) : v = .non := by cases h; rfl
theorem et_test {Q : Bool → Env → Prop} (h : EvW K te ρ fun d ρ1 => ∃ b, d = .bl b ∧ Q b ρ1) : EvT K (tTest te) ρ Q := fun F G H σ R Q' k =>
  h F G H σ R _ fun v d ρ1 G1 H1 e1 R1 hv q => by
    obtain ⟨b, rfl, q⟩ := q
    exact ⟨b, rep_bl hv, k b ρ1 G1 H1 e1 R1 q⟩
theorem et_B {Q : Bool → Env → Prop} (h : EvW K te ρ fun d ρ1 => ∃ b, d = .bl b ∧ Q b ρ1) : EvT K (tB te) ρ Q := fun F G H σ R Q' k =>
  h F G H σ R _ fun v d ρ1 G1 H1 e1 R1 hv q => by
    obtain ⟨b, rfl, q⟩ := q
    exact ⟨b, rep_bl hv, k b ρ1 G1 H1 e1 R1 q⟩
theorem et_and {Q : Bool → Env → Prop} (h : EvT K tt ρ fun b ρ1 => if b = true then EvT K tu ρ1 Q else Q false ρ1) : EvT K (tAnd tt tu) ρ Q := fun F G H σ R Q' k =>
  h F G H σ R _ fun b ρ1 G1 H1 e1 R1 q => by
    cases b with
    | true => exact q F G1 H1 σ R1 Q' fun b ρ2 G2 H2 e2 R2 q2 => k b ρ2 G2 H2 (e1.trans e2) R2 q2
    | false => exact k false ρ1 G1 H1 e1 R1 q
theorem et_or {Q : Bool → Env → Prop} (h : EvT K tt ρ fun b ρ1 => if b = true then Q true ρ1 else EvT K tu ρ1 Q) : EvT K (tOr tt tu) ρ Q := fun F G H σ R Q' k =>
  h F G H σ R _ fun b ρ1 G1 H1 e1 R1 q => by
    cases b with
    | false => exact q F G1 H1 σ R1 Q' fun b ρ2 G2 H2 e2 R2 q2 => k b ρ2 G2 H2 (e1.trans e2) R2 q2
    | true => exact k true ρ1 G1 H1 e1 R1 q
theorem et_not {Q : Bool → Env → Prop} (h : EvT K tt ρ fun b ρ1 => Q (!b) ρ1) : EvT K (tNot tt) ρ Q := fun F G H σ R Q' k =>
  h F G H σ R _ fun b ρ1 G1 H1 e1 R1 q => k (!b) ρ1 G1 H1 e1 R1 q
theorem et_yes {Q : Bool → Env → Prop} (q : Q true ρ) : EvT K tYes ρ Q := fun F G H σ R Q' k => k true ρ G H (Ex.refl G) R q
theorem ew_andV (h : EvW K ta ρ fun x ρ1 => ∃ c, x = .bl c ∧ if c = true then EvW K tb ρ1 Q else Q (.bl false) ρ1) : EvW K (tAndV ta tb) ρ Q := fun F G H σ R Q' k =>
  h F G H σ R _ fun v x ρ1 G1 H1 e1 R1 hv q => by
    obtain ⟨c, rfl, q⟩ := q
    refine ⟨c, rep_bl hv, ?_⟩
    cases c with
    | true => exact q F G1 H1 σ R1 Q' fun v d ρ2 G2 H2 e2 R2 hv q2 => k v d ρ2 G2 H2 (e1.trans e2) R2 hv q2
    | false => exact k _ _ ρ1 G1 H1 e1 R1 (.bl false) q
theorem ew_orV (h : EvW K ta ρ fun x ρ1 => ∃ c, x = .bl c ∧ if c = true then Q (.bl true) ρ1 else EvW K tb ρ1 Q) : EvW K (tOrV ta tb) ρ Q := fun F G H σ R Q' k =>
  h F G H σ R _ fun v x ρ1 G1 H1 e1 R1 hv q => by
    obtain ⟨c, rfl, q⟩ := q
    refine ⟨c, rep_bl hv, ?_⟩
    cases c with
    | false => exact q F G1 H1 σ R1 Q' fun v d ρ2 G2 H2 e2 R2 hv q2 => k v d ρ2 G2 H2 (e1.trans e2) R2 hv q2
    | true => exact k _ _ ρ1 G1 H1 e1 R1 (.bl true) q
theorem ew_notV (h : EvW K ta ρ fun x ρ1 => ∃ c, x = .bl c ∧ Q (.bl (!c)) ρ1) : EvW K (tNotV ta) ρ Q := fun F G H σ R Q' k =>
  h F G H σ R _ fun v x ρ1 G1 H1 e1 R1 hv q => by
    obtain ⟨c, rfl, q⟩ := q
    exact ⟨c, rep_bl hv, k _ _ ρ1 G1 H1 e1 R1 (.bl _) q⟩
theorem ew_if (h : EvT K tt ρ fun b ρ1 => if b = true then EvW K ta ρ1 Q else EvW K tb ρ1 Q) : EvW K (tIf tt ta tb) ρ Q := fun F G H σ R Q' k =>
  h F G H σ R _ fun b ρ1 G1 H1 e1 R1 q => by
    cases b with
    | true => exact q F G1 H1 σ R1 Q' fun v d ρ2 G2 H2 e2 R2 hv q2 => k v d ρ2 G2 H2 (e1.trans e2) R2 hv q2
    | false => exact q F G1 H1 σ R1 Q' fun v d ρ2 G2 H2 e2 R2 hv q2 => k v d ρ2 G2 H2 (e1.trans e2) R2 hv q2
theorem ew_chain {r r' : R2} (h : EvW K ta ρ fun x ρ1 => EvW K tb ρ1 fun y ρ2 => Op2 K r x y ρ2 fun z ρ3 => ∃ c, z = .bl c ∧ if c = true then EvW K tc ρ3 fun w ρ4 => Op2 K r' y w ρ4 Q else Q (.bl false) ρ3) : EvW K (tChain r r' ta tb tc) ρ Q := fun F G H σ R Q' k =>
  h F G H σ R _ fun v x ρ1 G1 H1 e1 R1 hv q1 => q1 F G1 H1 σ R1 _ fun w y ρ2 G2 H2 e2 R2 hw q2 =>
    q2 F G2 H2 σ R2 v w (hv.mono e2) hw _ fun z d ρ3 G3 H3 e3 R3 hz qz => by
      obtain ⟨c, rfl, q⟩ := qz
      refine ⟨c, rep_bl hz, ?_⟩
      cases c with
      | true => exact q F G3 H3 σ R3 _ fun u d ρ4 G4 H4 e4 R4 hu q4 => q4 F G4 H4 σ R4 w u (hw.mono (e3.trans e4)) hu Q' fun z d ρ5 G5 H5 e5 R5 hz q5 => k z d ρ5 G5 H5 ((((e1.trans e2).trans e3).trans e4).trans e5) R5 hz q5
      | false => exact k _ _ ρ3 G3 H3 ((e1.trans e2).trans e3) R3 (.bl false) q
end
end DL

set_option Elab.async false
set_option linter.all false
set_option maxRecDepth 100000
namespace DL
open PySem L2
section
variable {K : PySem.W.Frag} {F G H G' H' : Hp} {σ : L2.St} {ρ : Env}
/-- the frame with what is one's own -/
def addF (F H : Hp) (as : List Addr) : Hp := fun a => if a ∈ as then H a else F a
theorem addF_in {F H : Hp} {as : List Addr} {a : Addr} (h : a ∈ as) : addF F H as a = H a := if_pos h
theorem addF_out {F H : Hp} {as : List Addr} {a : Addr} (h : a ∉ as) : addF F H as a = F a := if_neg h
theorem RE.wdF (R : RE K F G H σ ρ) {as : List Addr} (sub : ∀ a ∈ as, a ∈ ownA ρ) : Wd (addF F H as) G H := by
  refine ⟨fun a o e => ?_, R.wd.g, fun a o e => ?_, fun a vs e => ?_⟩
  · by_cases m : a ∈ as
    · rw [addF_in m] at e; exact e
    · rw [addF_out m] at e; exact R.wd.f a o e
  · by_cases m : a ∈ as
    · exact (R.sl.own (sub a m)).1
    · rw [addF_out m] at e; exact R.wd.fg a o e
  · by_cases m : a ∈ as
    · rw [addF_in m] at e
      obtain ⟨_, _, u, hu, nt⟩ := R.sl.own (sub a m)
      rw [hu] at e; cases e; exact nt vs rfl
    · rw [addF_out m] at e; exact R.wd.ft a vs e
theorem RE.wdB (R : RE K F G H σ ρ) {as : List Addr} (sub : ∀ a ∈ as, a ∈ ownA ρ) (W : Wd (addF F H as) G' H') : Wd F G' H' := by
  refine ⟨fun a o e => ?_, W.g, fun a o e => ?_, R.wd.ft⟩
  · have m : a ∉ as := fun m => by rw [(R.sl.own (sub a m)).2.1] at e; cases e
    exact W.f a o (by rw [addF_out m]; exact e)
  · have m : a ∉ as := fun m => by rw [(R.sl.own (sub a m)).2.1] at e; cases e
    exact W.fg a o (by rw [addF_out m]; exact e)
theorem RE.keepF (R : RE K F G H σ ρ) {as : List Addr} (W : Wd (addF F H as) G' H') {a : Addr} (m : a ∈ as) (mo : a ∈ ownA ρ) : H' a = H a ∧ G' a = none := by
  obtain ⟨_, _, u, e, _⟩ := R.sl.own mo
  refine ⟨?_, W.fg a u (by rw [addF_in m]; exact e)⟩
  rw [e]
  exact W.f a u (by rw [addF_in m]; exact e)
theorem RE.back (R : RE K F G H σ ρ) (W : Wd (addF F H (ownA ρ)) G' H') (e : Ex G G') : RE K F G' H' σ ρ :=
  ⟨R.wdB (fun _ m => m) W, R.sl.step e fun a m => R.keepF W m m, R.nd⟩
theorem nodup_apart : ∀ {ρ : Env} {i j : Nat} {r r' : Sl} {a : Addr}, (ownA ρ).Nodup → ρ[i]? = some r → ρ[j]? = some r' → i ≠ j → a ∈ r.adr → a ∉ r'.adr
  | [], _, _, _, _, _, _, e, _, _, _ => by simp at e
  | r0 :: ρ, 0, 0, _, _, _, _, _, _, n, _ => absurd rfl n
  | r0 :: ρ, 0, j + 1, r, r', a, nd, e, f, _, m => fun m' => by
    simp at e; subst e
    rw [ownA_cons] at nd
    exact (List.nodup_append.mp nd).2.2 a m a (adr_mem (by simpa using f) m') rfl
  | r0 :: ρ, i + 1, 0, r, r', a, nd, e, f, _, m => fun m' => by
    simp at f; subst f
    rw [ownA_cons] at nd
    exact (List.nodup_append.mp nd).2.2 a m' a (adr_mem (by simpa using e) m) rfl
  | r0 :: ρ, i + 1, j + 1, r, r', a, nd, e, f, n, m => by
    rw [ownA_cons] at nd
    exact nodup_apart (List.nodup_append.mp nd).2.1 (by simpa using e) (by simpa using f) (fun z => n (by rw [z])) m
/-- one slot is another now, the others stay -/
theorem Slots.but {r' : Sl} : ∀ {σ : L2.St} {ρ : Env} {i : Nat} {s : Option V}, Slots K F G H σ ρ → σ[i]? = some s → SlotOk K F G' H' s r' → (∀ (j : Nat) s r, j ≠ i → σ[j]? = some s → ρ[j]? = some r → SlotOk K F G H s r → SlotOk K F G' H' s r) → Slots K F G' H' σ (ρ.set i r')
  | [], [], _, _, _, e, _, _ => by simp at e
  | [], _ :: _, _, _, h, _, _, _ => h.elim
  | _ :: _, [], _, _, h, _, _, _ => h.elim
  | s0 :: σ, r0 :: ρ, 0, s, h, e, hs, k => by
    simp at e; subst e
    exact ⟨hs, h.2.map fun j s r h1 h2 => k (j + 1) s r (by omega) (by simpa using h1) (by simpa using h2)⟩
  | s0 :: σ, r0 :: ρ, i + 1, s, h, e, hs, k => ⟨k 0 s0 r0 (by omega) rfl rfl h.1, Slots.but h.2 (by simpa using e) hs fun j s r n h1 h2 => k (j + 1) s r (by omega) (by simpa using h1) (by simpa using h2)⟩
/-- the object at a of slot i, changed -/
theorem RE.mut {r r' : Sl} {i : Nat} {a : Addr} {o : HO} {s : Option V} (R : RE K F G H σ ρ) (hr : ρ[i]? = some r) (ha : a ∈ r.adr) (ha' : r'.adr.Sublist r.adr) (hσ : σ[i]? = some s) (hs : SlotOk K F G (upd H a o) s r') : RE K F G (upd H a o) σ (ρ.set i r') := by
  obtain ⟨hG, hF, _⟩ := R.sl.own (adr_mem hr ha)
  refine ⟨⟨fun b u e => ?_, fun b u e => ?_, R.wd.fg, R.wd.ft⟩, R.sl.but hσ hs (fun j s r2 n h1 h2 q => q.step (Ex.refl G) fun b m => ⟨upd_ne fun z => ?_, (q.own m).1⟩), List.Nodup.sublist (ownA_setr ha' hr) R.nd⟩
  · rw [upd_ne (ne_of_none e hF)]; exact R.wd.f b u e
  · rw [upd_ne (ne_of_none e hG)]; exact R.wd.g b u e
  · exact nodup_apart R.nd hr h2 (Ne.symm n) ha (z ▸ m)
theorem set_same {i : Nat} {r : Sl} (h : ρ[i]? = some r) : ρ.set i r = ρ := by
  obtain ⟨hl, hx⟩ := List.getElem?_eq_some_iff.mp h
  rw [← hx, List.set_getElem_self]
/-- own no more: shared from now on -/
theorem RE.give {i : Nat} {a : Addr} {d : D} (R : RE K F G H σ ρ) (hr : ρ[i]? = some (.own a d)) : ∃ o : HO, σ[i]? = some (some (.ref a)) ∧ H a = some o ∧ G a = none ∧ RE K F (upd G a o) H σ (ρ.set i (.sh d)) ∧ Rep K (upd G a o) (.ref a) d := by
  obtain ⟨s, hσ, rfl, hG, hF, ho⟩ := R.sl.get hr
  obtain ⟨o, e, _⟩ := ho.some
  have rp : Rep K (upd G a o) (.ref a) d := ownR_rep ho (by rw [upd_same, e]) (Ex.new hG)
  refine ⟨o, hσ, e, hG, ⟨⟨R.wd.f, fun b u q => ?_, fun b u q => ?_, R.wd.ft⟩, R.sl.but hσ (show SlotOk K F (upd G a o) H (some (.ref a)) (.sh d) from ⟨_, rfl, rp⟩) (fun j s r2 n h1 h2 q => q.step (Ex.new hG) fun b m => ⟨rfl, ?_⟩), List.Nodup.sublist (ownA_setr (r' := .sh d) (List.nil_sublist _) hr) R.nd⟩, rp⟩
  · by_cases z : b = a
    · subst z; rw [upd_same] at q; cases q; exact e
    · rw [upd_ne z] at q; exact R.wd.g b u q
  · by_cases z : b = a
    · subst z; rw [hF] at q; cases q
    · rw [upd_ne z]; exact R.wd.fg b u q
  · have z : b ≠ a := fun z => nodup_apart R.nd hr h2 (Ne.symm n) (List.mem_singleton.mpr rfl) (z ▸ m)
    rw [upd_ne z]
    exact (q.own m).1
end

/-! ### promises -/
/-- a def of plain data: T says what may come -/
def spP (K : PySem.W.Frag) (T : List D → (D → Prop) → Prop) : Sp := fun vs H Q _ => ∃ F G ds Qd, Wd F G H ∧ Reps K G vs ds ∧ T ds Qd ∧
  ∀ v d G' H', Ex G G' → Wd F G' H' → Rep K G' v d → Qd d → Q v H'
/-- .. whose first argument is the state of draws -/
def spW (K : PySem.W.Frag) (T : List D → (D → Prop) → Prop) : Sp := fun vs H Q _ => ∃ a ws F G ds Qd, vs = .ref a :: ws ∧ Wd F G H ∧ G a = none ∧ F a = none ∧ DrwR (H a) ∧ Reps K G ws ds ∧ T ds Qd ∧
  ∀ v d G' H', Ex G G' → Wd F G' H' → G' a = none → DrwR (H' a) → Rep K G' v d → Qd d → Q v H'
/-- a def of plain data that hands back a new object -/
def spN (K : PySem.W.Frag) (T : List D → (D → Prop) → Prop) : Sp := fun vs H Q _ => ∃ F G ds Qd, Wd F G H ∧ Reps K G vs ds ∧ T ds Qd ∧
  ∀ p d G' H', Ex G G' → Wd F G' H' → G' p = none → F p = none → OwnR K G' (H' p) d → Qd d → Q (.ref p) H'
/-- a plain function -/
def fnT (f : List D → Option D) : List D → (D → Prop) → Prop := fun ds Q => ∃ d, f ds = some d ∧ Q d

section
variable {K : PySem.W.Frag} {te ta tb tc : TE} {tt tu : TT} {ts : TA} {ρ : Env} {Q : D → Env → Prop} {T : List D → (D → Prop) → Prop} {E : XK}
theorem ew_callP (h : EvA K ts ρ fun ds ρ1 => T ds fun d => Q d ρ1) : EvW K (tCall (spP K T) [] E ts) ρ Q := fun F G H σ R Q' k =>
  h F G H σ R _ fun vs ds ρ1 G1 H1 e1 R1 hv q => by
    refine ⟨addF F H1 (ownA ρ1), G1, ds, _, R1.wdF (fun _ m => m), by rw [List.append_nil]; exact hv, q, fun v d G' H' e W hd qd => ?_⟩
    exact k v d ρ1 G' H' (e1.trans e) (R1.back W e) hd qd
theorem en_callN (h : EvA K ts ρ fun ds ρ1 => T ds fun d => Q d ρ1) : EvN K (tCall (spN K T) [] E ts) ρ Q := fun F G H σ R Q' k =>
  h F G H σ R _ fun vs ds ρ1 G1 H1 e1 R1 hv q => by
    refine ⟨addF F H1 (ownA ρ1), G1, ds, _, R1.wdF (fun _ m => m), by rw [List.append_nil]; exact hv, q, fun p d G' H' e W hG hF ho qd => ?_⟩
    have np : p ∉ ownA ρ1 := fun m => by
      obtain ⟨_, _, u, hu, _⟩ := R1.sl.own m
      rw [addF_in m, hu] at hF; cases hF
    rw [addF_out np] at hF
    exact k p d ρ1 G' H' (e1.trans e) (R1.back W e) hG hF np ho qd
theorem ew_callW {i : Nat} {a : Addr} (hi : ρ[i]? = some (.drw a)) (h : EvA K ts ρ fun ds ρ1 => ρ1[i]? = some (.drw a) ∧ T ds fun d => Q d ρ1) : EvW K (tCall (spW K T) [] E (tCons (tVar i) ts)) ρ Q := fun F G H σ R Q' k => by
  obtain ⟨s, hs, rfl, _⟩ := R.sl.get hi
  refine ⟨.ref a, hs, h F G H σ R _ fun vs ds ρ1 G1 H1 e1 R1 hv q => ?_⟩
  obtain ⟨hi1, q⟩ := q
  obtain ⟨_, hs1, e, g1, g2, g3⟩ := R1.sl.get hi1
  have sub : ∀ b ∈ (ownA ρ1).filter (fun b => decide (b ≠ a)), b ∈ ownA ρ1 := fun b m => (List.mem_filter.mp m).1
  have na : a ∉ (ownA ρ1).filter (fun b => decide (b ≠ a)) := fun m => by
    have := (List.mem_filter.mp m).2
    simp at this
  refine ⟨a, vs, addF F H1 ((ownA ρ1).filter fun b => decide (b ≠ a)), G1, ds, _, by rw [List.append_nil], R1.wdF sub, g1, by rw [addF_out na]; exact g2, g3, hv, q, fun v d G' H' e2 W gn dn hd qd => ?_⟩
  have hF := R1.wdB sub W
  have hsl := R1.sl.but hs (show SlotOk K F G' H' (some (.ref a)) (.drw a) from ⟨rfl, gn, g2, dn⟩) (fun j s r2 n h1 h2 z => z.step e2 fun b m => ?_)
  · rw [set_same hi1] at hsl
    exact k v d ρ1 G' H' (e1.trans e2) ⟨hF, hsl, R1.nd⟩ hd qd
  · have nb : b ≠ a := fun z => nodup_apart R1.nd hi1 h2 (Ne.symm n) (List.mem_singleton.mpr rfl) (z ▸ m)
    have mb := adr_mem h2 m
    exact R1.keepF W (List.mem_filter.mpr ⟨mb, by simpa using nb⟩) mb
end

/-! ### statements -/
structure EndD where
  nx : Env → Prop
  rt : D → Env → Prop
  bk : Env → Prop := fun _ => False
  ct : Env → Prop := fun _ => False
  ro : D → Env → Prop := fun _ _ => False
  W : XK := fun _ _ _ => False
  xx : Str → Str → D → Prop := fun _ _ _ => False
structure Links (K : PySem.W.Frag) (F G : Hp) (E : EndD) (Dn : Ends) : Prop where
  nx : ∀ σ' ρ' G' H', Ex G G' → RE K F G' H' σ' ρ' → E.nx ρ' → Dn.nx σ' H'
  rt : ∀ v d σ' ρ' G' H', Ex G G' → RE K F G' H' σ' ρ' → Rep K G' v d → E.rt d ρ' → Dn.rt v H'
  bk : ∀ σ' ρ' G' H', Ex G G' → RE K F G' H' σ' ρ' → E.bk ρ' → Dn.bk σ' H'
  ct : ∀ σ' ρ' G' H', Ex G G' → RE K F G' H' σ' ρ' → E.ct ρ' → Dn.ct σ' H'
  ro : ∀ p d σ' ρ' G' H', Ex G G' → RE K F G' H' σ' ρ' → G' p = none → F p = none → p ∉ ownA ρ' → OwnR K G' (H' p) d → E.ro d ρ' → Dn.rt (.ref p) H'
  xx : ∀ C f v d dx G' H', Ex G G' → Wd F G' H' → H' dx = some (.xd [(f, v)]) → G' dx = none → F dx = none → Rep K G' v d → E.xx C f d → E.W (.ref (He.ga K C)) (some dx) H'
theorem Links.mono {K : PySem.W.Frag} {F G G1 : Hp} {E : EndD} {Dn : Ends} (L : Links K F G E Dn) (e : Ex G G1) : Links K F G1 E Dn :=
  ⟨fun σ' ρ' G' H' x => L.nx σ' ρ' G' H' (e.trans x), fun v d σ' ρ' G' H' x => L.rt v d σ' ρ' G' H' (e.trans x), fun σ' ρ' G' H' x => L.bk σ' ρ' G' H' (e.trans x), fun σ' ρ' G' H' x => L.ct σ' ρ' G' H' (e.trans x), fun p d σ' ρ' G' H' x => L.ro p d σ' ρ' G' H' (e.trans x), fun C f v d dx G' H' x => L.xx C f v d dx G' H' (e.trans x)⟩
def WS (K : PySem.W.Frag) (t : TS) (ρ : Env) (E : EndD) : Prop := ∀ F G H σ Dn, RE K F G H σ ρ → Links K F G E Dn → t Dn σ H
/-- a target -/
def GW (K : PySem.W.Frag) (g : TG) (d : D) (ρ : Env) (Q : Env → Prop) : Prop := ∀ F G H σ v, RE K F G H σ ρ → Rep K G v d → ∀ Q' : L2.St → Hp → Prop, (∀ σ' ρ' G' H', Ex G G' → RE K F G' H' σ' ρ' → Q ρ' → Q' σ' H') → g v σ H Q'
def GWs (K : PySem.W.Frag) (g : TGs) (ds : List D) (ρ : Env) (Q : Env → Prop) : Prop := ∀ F G H σ vs, RE K F G H σ ρ → Reps K G vs ds → ∀ Q' : L2.St → Hp → Prop, (∀ σ' ρ' G' H', Ex G G' → RE K F G' H' σ' ρ' → Q ρ' → Q' σ' H') → g vs σ H Q'
section
variable {K : PySem.W.Frag} {te ta tb tc : TE} {tt : TT} {t u : TS} {ts : TA} {ρ : Env} {E : EndD}
theorem ws_next (h : E.nx ρ) : WS K tNext ρ E := fun F G H σ Dn R L => L.nx σ ρ G H (Ex.refl G) R h
theorem ws_break (h : E.bk ρ) : WS K tBreak ρ E := fun F G H σ Dn R L => L.bk σ ρ G H (Ex.refl G) R h
theorem ws_cont (h : E.ct ρ) : WS K tCont ρ E := fun F G H σ Dn R L => L.ct σ ρ G H (Ex.refl G) R h
theorem ws_seq (h : WS K t ρ { E with nx := fun ρ' => WS K u ρ' E }) : WS K (tSeq t u) ρ E := fun F G H σ Dn R L =>
  h F G H σ { Dn with nx := u Dn } R ⟨fun σ' ρ' G' H' e R' q => q F G' H' σ' Dn R' (L.mono e), L.rt, L.bk, L.ct, L.ro, L.xx⟩
theorem ws_drop (h : EvW K te ρ fun _ ρ' => E.nx ρ') : WS K (tDrop te) ρ E := fun F G H σ Dn R L => h F G H σ R _ fun v d ρ' G' H' e R' _ q => L.nx σ ρ' G' H' e R' q
theorem ws_ret (h : EvW K te ρ fun d ρ' => E.rt d ρ') : WS K (tRet te) ρ E := fun F G H σ Dn R L => h F G H σ R _ fun v d ρ' G' H' e R' hv q => L.rt v d σ ρ' G' H' e R' hv q
theorem ws_retN (h : E.rt .non ρ) : WS K tRetN ρ E := fun F G H σ Dn R L => L.rt .non .non σ ρ G H (Ex.refl G) R .non h
/-- a new object is handed back, the caller's own -/
theorem ws_retNew (h : EvN K te ρ fun d ρ' => E.ro d ρ') : WS K (tRet te) ρ E := fun F G H σ Dn R L => h F G H σ R _ fun p d ρ' G' H' e R' hG hF hO o q => L.ro p d σ ρ' G' H' e R' hG hF hO o q
theorem ws_retOwn {i : Nat} {a : Addr} {d : D} (hi : ρ[i]? = some (.own a d)) (h : E.ro d (ρ.set i .un)) : WS K (tRet (tVar i)) ρ E := fun F G H σ Dn R L => by
  obtain ⟨s, hσ, rfl, hG, hF, ho⟩ := R.sl.get hi
  refine ⟨.ref a, hσ, L.ro a d σ _ G H (Ex.refl G) ⟨R.wd, ?_, List.Nodup.sublist (ownA_setr (r' := .un) (List.nil_sublist _) hi) R.nd⟩ hG hF (fun m => ?_) ho h⟩
  · exact R.sl.but hσ (r' := .un) trivial fun j s r n h1 h2 q => q
  · obtain ⟨r, hr, m⟩ := List.mem_flatMap.mp m
    obtain ⟨j, hj⟩ := List.mem_iff_getElem?.mp hr
    by_cases e : j = i
    · subst e
      obtain ⟨hl, _⟩ := List.getElem?_eq_some_iff.mp hi
      rw [List.getElem?_set_self hl] at hj
      cases hj
      cases m
    · rw [List.getElem?_set_ne (Ne.symm e)] at hj
      exact nodup_apart R.nd hi hj (Ne.symm e) (List.mem_singleton.mpr rfl) m
/-- the own object is handed back -/
theorem ws_retO {i : Nat} {a : Addr} {d : D} (hi : ρ[i]? = some (.own a d)) (h : E.rt d (ρ.set i (.sh d))) : WS K (tRet (tVar i)) ρ E := fun F G H σ Dn R L => by
  obtain ⟨o, hσ, _, hG, R', rp⟩ := R.give hi
  exact ⟨.ref a, hσ, L.rt _ d σ _ _ H (Ex.new hG) R' rp h⟩
theorem ws_if (h : EvT K tt ρ fun b ρ' => if b = true then WS K t ρ' E else WS K u ρ' E) : WS K (tIfS tt t u) ρ E := fun F G H σ Dn R L => h F G H σ R _ fun b ρ' G' H' e R' q => by
  cases b with
  | true => exact q F G' H' σ Dn R' (L.mono e)
  | false => exact q F G' H' σ Dn R' (L.mono e)
theorem gw_name {i : Nat} {d : D} {Q : Env → Prop} (h : Q (ρ.set i (.sh d))) : GW K (gName i) d ρ Q := fun F G H σ v R hv Q' k => k _ _ G H (Ex.refl G) (R.setSh hv i) h
theorem gws_nil {Q : Env → Prop} (h : Q ρ) : GWs K gNil [] ρ Q := fun F G H σ vs R hv Q' k => ⟨hv.nil_inv, k σ ρ G H (Ex.refl G) R h⟩
theorem gws_cons {g : TG} {gs : TGs} {d : D} {ds : List D} {Q : Env → Prop} (h : GW K g d ρ fun ρ1 => GWs K gs ds ρ1 Q) : GWs K (gCons g gs) (d :: ds) ρ Q := fun F G H σ vs R hv Q' k => by
  obtain ⟨v, ws, rfl, h1, h2⟩ := hv.cons_inv
  exact ⟨v, ws, rfl, h F G H σ v R h1 _ fun σ1 ρ1 G1 H1 e1 R1 q1 => q1 F G1 H1 σ1 ws R1 (h2.mono e1) Q' fun σ2 ρ2 G2 H2 e2 R2 q2 => k σ2 ρ2 G2 H2 (e1.trans e2) R2 q2⟩
theorem rep_tup {H : Hp} {v : V} {ds : List D} (h : Rep K H v (.tup ds)) : ∃ a vs, v = .ref a ∧ H a = some (.tup vs) ∧ Reps K H vs ds := by
  cases h with | tup a b => exact ⟨_, _, rfl, a, b⟩
theorem rep_lst {H : Hp} {v : V} {ds : List D} (h : Rep K H v (.lst ds)) : ∃ a vs, v = .ref a ∧ H a = some (.lst vs) ∧ Reps K H vs ds := by
  cases h with | lst a b => exact ⟨_, _, rfl, a, b⟩
theorem rep_dk {H : Hp} {v : V} {ps : List (Key × D)} (h : Rep K H v (.dk ps)) : ∃ a kvs, v = .ref a ∧ Rd H a (.dK kvs) ∧ kvs.map (·.1) = ps.map (·.1) ∧ Reps K H (kvs.map (·.2)) (ps.map (·.2)) := by
  cases h with | dk a b c => exact ⟨_, _, rfl, a, b, c⟩
theorem rep_dt {H : Hp} {v : V} {ps : List (List Key × D)} (h : Rep K H v (.dt ps)) : ∃ a kvs, v = .ref a ∧ Rd H a (.dT kvs) ∧ kvs.map (·.1) = ps.map (·.1) ∧ Reps K H (kvs.map (·.2)) (ps.map (·.2)) := by
  cases h with | dt a b c => exact ⟨_, _, rfl, a, b, c⟩
theorem rep_ins {H : Hp} {v : V} {C : Str} {ps : List (Str × D)} (h : Rep K H v (.ins C ps)) : ∃ a dx fs, v = .ref a ∧ H a = some (.ins (He.ga K C) dx fs) ∧ fs.map (·.1) = ps.map (·.1) ∧ Reps K H (fs.map (·.2)) (ps.map (·.2)) := by
  cases h with | ins a b c => exact ⟨_, _, _, rfl, a, b, c⟩
theorem rep_kt {H : Hp} {v : V} {ds : List D} (h : Rep K H v (.kt ds)) : ∃ a vs, v = .ref a ∧ SqT K H a vs ∧ Reps K H vs ds := by
  cases h with | kt a b => exact ⟨_, _, rfl, a, b⟩
theorem Ex.sqK {H H' : Hp} {a : Addr} {xs : List V} (e : Ex H H') (h : SqT K H a xs) : SqT K H' a xs := e.rdx.sqT h
theorem Ex.sqT {H H' : Hp} {a : Addr} {xs : List V} (e : Ex H H') (h : H a = some (.tup xs)) : SqT K H' a xs := .inl (.inl (e _ _ h))
theorem gw_tup {n : Nat} {gs : TGs} {ds : List D} {Q : Env → Prop} (hn : ds.length = n) (h : GWs K gs ds ρ Q) : GW K (gTup K n gs) (.tup ds) ρ Q := fun F G H σ v R hv Q' k => by
  obtain ⟨a, vs, rfl, h1, h2⟩ := rep_tup hv
  exact ⟨a, vs, rfl, R.wd.g.sqT h1, by rw [h2.length]; exact hn, h F G H σ vs R h2 Q' k⟩
theorem ws_asg {g : TG} (h : EvW K te ρ fun d ρ1 => GW K g d ρ1 E.nx) : WS K (tAsg te g) ρ E := fun F G H σ Dn R L => h F G H σ R _ fun v d ρ1 G1 H1 e1 R1 hv q =>
  q F G1 H1 σ v R1 hv _ fun σ2 ρ2 G2 H2 e2 R2 q2 => L.nx σ2 ρ2 G2 H2 (e1.trans e2) R2 q2
theorem ownA_set_own {r : Sl} : ∀ {ρ : Env} (i : Nat), (ownA ρ).Nodup → r.adr.Nodup → (∀ a ∈ r.adr, a ∉ ownA ρ) → (ownA (ρ.set i r)).Nodup ∧ ∀ b, b ∈ ownA (ρ.set i r) → b ∈ r.adr ∨ b ∈ ownA ρ
  | [], _, h, _, _ => ⟨h, fun b m => .inr m⟩
  | r0 :: ρ, 0, h, h1, h2 => by
    show (ownA (r :: ρ)).Nodup ∧ ∀ b, b ∈ ownA (r :: ρ) → _
    rw [ownA_cons] at h h2
    rw [ownA_cons]
    refine ⟨List.nodup_append.mpr ⟨h1, (List.nodup_append.mp h).2.1, fun a m b m' e => h2 a m (by rw [e]; exact List.mem_append_right _ m')⟩, fun b m => ?_⟩
    rw [ownA_cons]
    exact (List.mem_append.mp m).imp id (List.mem_append_right _)
  | r0 :: ρ, i + 1, h, h1, h2 => by
    show (ownA (r0 :: ρ.set i r)).Nodup ∧ ∀ b, b ∈ ownA (r0 :: ρ.set i r) → _
    rw [ownA_cons] at h h2
    rw [ownA_cons, ownA_cons]
    obtain ⟨n1, n2, n3⟩ := List.nodup_append.mp h
    obtain ⟨ih1, ih2⟩ := ownA_set_own (ρ := ρ) i n2 h1 (fun a m z => h2 a m (List.mem_append_right _ z))
    refine ⟨List.nodup_append.mpr ⟨n1, ih1, fun a m b m' e => ?_⟩, fun b m => ?_⟩
    · rcases ih2 b m' with z | z
      · exact h2 b z (List.mem_append_left _ (e ▸ m))
      · exact n3 a m b z e
    · rcases List.mem_append.mp m with m | m
      · exact .inr (List.mem_append_left _ m)
      · exact (ih2 b m).imp id (List.mem_append_right _)
theorem RE.setOwn {F G H : Hp} {σ : L2.St} {ρ : Env} {p : Addr} {d : D} (R : RE K F G H σ ρ) (hG : G p = none) (hF : F p = none) (hO : p ∉ ownA ρ) (o : OwnR K G (H p) d) (i : Nat) : RE K F G H (σ.set i (some (.ref p))) (ρ.set i (.own p d)) :=
  ⟨R.wd, R.sl.set (r := .own p d) ⟨rfl, hG, hF, o⟩ i, (ownA_set_own (r := .own p d) i R.nd (show [p].Nodup from List.nodup_cons.mpr ⟨List.not_mem_nil, List.nodup_nil⟩) (fun a m => by rw [List.mem_singleton.mp m]; exact hO)).1⟩
/-- a new object is given a name: it is the def's own -/
theorem ws_asgN {i : Nat} (h : EvN K te ρ fun d ρ1 => ∀ p, E.nx (ρ1.set i (.own p d))) : WS K (tAsg te (gName i)) ρ E := fun F G H σ Dn R L => h F G H σ R _ fun p d ρ1 G1 H1 e1 R1 hG hF hO o q =>
  L.nx _ _ G1 H1 e1 (R1.setOwn hG hF hO o i) (q p)
end
end DL

set_option Elab.async false
set_option linter.all false
set_option maxRecDepth 100000
namespace DL
open PySem L2
/-! ### derivations that serve several kinds -/
theorem pe_or {X : Cx} {e : Expr} {t u : TE} (h : PE X e t) (h' : PE X e u) : PE X e (fun σ H Q => t σ H Q ∨ u σ H Q) :=
  ⟨fun pins s σ H Q I q => q.elim (fun q => h.run pins s σ H Q I q) fun q => h'.run pins s σ H Q I q⟩
section
variable {K : PySem.W.Frag} {te ta tb tc : TE} {tt tu : TT} {ts : TA} {ρ : Env} {Q : D → Env → Prop}
theorem ew_inl {t u : TE} (h : EvW K t ρ Q) : EvW K (fun σ H Q => t σ H Q ∨ u σ H Q) ρ Q := fun F G H σ R Q' k => .inl (h F G H σ R Q' k)
theorem ew_inr {t u : TE} (h : EvW K u ρ Q) : EvW K (fun σ H Q => t σ H Q ∨ u σ H Q) ρ Q := fun F G H σ R Q' k => .inr (h F G H σ R Q' k)
theorem op2_inl {r r' : R2} {x y : D} (h : Op2 K r x y ρ Q) : Op2 K (fun x y H Q => r x y H Q ∨ r' x y H Q) x y ρ Q := fun F G H σ R v w hv hw Q' k => .inl (h F G H σ R v w hv hw Q' k)
theorem op2_inr {r r' : R2} {x y : D} (h : Op2 K r' x y ρ Q) : Op2 K (fun x y H Q => r x y H Q ∨ r' x y H Q) x y ρ Q := fun F G H σ R v w hv hw Q' k => .inr (h F G H σ R v w hv hw Q' k)
theorem opa_inl {r r' : List V → Hp → VK → Prop} {xs : List D} (h : OpA K r xs ρ Q) : OpA K (fun xs H Q => r xs H Q ∨ r' xs H Q) xs ρ Q := fun F G H σ R v hv Q' k => .inl (h F G H σ R v hv Q' k)
theorem opa_inr {r r' : List V → Hp → VK → Prop} {xs : List D} (h : OpA K r' xs ρ Q) : OpA K (fun xs H Q => r xs H Q ∨ r' xs H Q) xs ρ Q := fun F G H σ R v hv Q' k => .inr (h F G H σ R v hv Q' k)
/-! ### numbers -/
theorem op2_int {f : Int → Int → Int} {i j : Int} (q : Q (.int (f i j)) ρ) : Op2 K (rI0 fun i j => .int (f i j)) (.int i) (.int j) ρ Q := fun F G H σ R v w hv hw Q' k =>
  ⟨i, j, rep_int hv, rep_int hw, k _ _ ρ G H (Ex.refl G) R (.int _) q⟩
theorem op2_intC {C : Int → Int → Prop} {f : Int → Int → Int} {i j : Int} (c : C i j) (q : Q (.int (f i j)) ρ) : Op2 K (rI C fun i j => .int (f i j)) (.int i) (.int j) ρ Q := fun F G H σ R v w hv hw Q' k =>
  ⟨i, j, rep_int hv, rep_int hw, c, k _ _ ρ G H (Ex.refl G) R (.int _) q⟩
theorem op2_cmp {f : Int → Int → Bool} {i j : Int} (q : Q (.bl (f i j)) ρ) : Op2 K (rI0 fun i j => .bl (f i j)) (.int i) (.int j) ρ Q := fun F G H σ R v w hv hw Q' k =>
  ⟨i, j, rep_int hv, rep_int hw, k _ _ ρ G H (Ex.refl G) R (.bl _) q⟩
theorem op1_neg {i : Int} (q : Q (.int (-i)) ρ) : Op1 K (rU fun i => .int (-i)) (.int i) ρ Q := fun F G H σ R v hv Q' k => ⟨i, rep_int hv, k _ _ ρ G H (Ex.refl G) R (.int _) q⟩
/-! ### == of plain things -/
theorem op2_eq_int {i j : Int} (q : Q (.bl (decide (i = j))) ρ) : Op2 K rEq (.int i) (.int j) ρ Q := fun F G H σ R v w hv hw Q' k => by
  rw [rep_int hv, rep_int hw]
  refine ⟨rfl, ?_⟩
  have e : decide (V.int i = V.int j) = decide (i = j) := by simp
  rw [e]; exact k _ _ ρ G H (Ex.refl G) R (.bl _) q
theorem op2_eq_str {i j : Str} (q : Q (.bl (decide (i = j))) ρ) : Op2 K rEq (.str i) (.str j) ρ Q := fun F G H σ R v w hv hw Q' k => by
  rw [rep_str hv, rep_str hw]
  refine ⟨rfl, ?_⟩
  have e : decide (V.str i = V.str j) = decide (i = j) := by simp
  rw [e]; exact k _ _ ρ G H (Ex.refl G) R (.bl _) q
theorem op2_eq_bl {i j : Bool} (q : Q (.bl (decide (i = j))) ρ) : Op2 K rEq (.bl i) (.bl j) ρ Q := fun F G H σ R v w hv hw Q' k => by
  rw [rep_bl hv, rep_bl hw]
  refine ⟨rfl, ?_⟩
  have e : decide (V.bl i = V.bl j) = decide (i = j) := by simp
  rw [e]; exact k _ _ ρ G H (Ex.refl G) R (.bl _) q
theorem op2_ne_int {i j : Int} (q : Q (.bl (!decide (i = j))) ρ) : Op2 K rNe (.int i) (.int j) ρ Q := fun F G H σ R v w hv hw Q' k => by
  rw [rep_int hv, rep_int hw]
  refine ⟨rfl, ?_⟩
  have e : decide (V.int i = V.int j) = decide (i = j) := by simp
  rw [e]; exact k _ _ ρ G H (Ex.refl G) R (.bl _) q
theorem op2_ne_bl {i j : Bool} (q : Q (.bl (!decide (i = j))) ρ) : Op2 K rNe (.bl i) (.bl j) ρ Q := fun F G H σ R v w hv hw Q' k => by
  rw [rep_bl hv, rep_bl hw]
  refine ⟨rfl, ?_⟩
  have e : decide (V.bl i = V.bl j) = decide (i = j) := by simp
  rw [e]; exact k _ _ ρ G H (Ex.refl G) R (.bl _) q
def D.isNon : D → Bool
  | .non => true
  | _ => false
/-- x is None -/
theorem op2_isN {x : D} (q : Q (.bl x.isNon) ρ) : Op2 K (fun x y H Q => y = .non ∧ Q (.bl (decide (x = .non))) H) x .non ρ Q := fun F G H σ R v w hv hw Q' k => by
  refine ⟨rep_non hw, ?_⟩
  have e : decide (v = V.non) = x.isNon := by
    cases hv <;> first | rfl | exact decide_eq_false (fun z => nomatch z)
  rw [e]; exact k _ _ ρ G H (Ex.refl G) R (.bl _) q
/-! ### isinstance -/
def D.ty : D → String
  | .non => "NoneType" | .bl _ => "bool" | .int _ => "int" | .str _ => "str" | .lst _ => "list" | .tup _ => "tuple" | .dk _ => "dict" | .dt _ => "dict" | .ins _ _ => "?" | .scr _ => "?" | .kt _ => "tuple"
/-- no object of one's own -/
def D.plain : D → Bool
  | .ins _ _ => false
  | .dt _ => false
  | .scr _ => false
  | _ => true
def tyIs (t n : String) : Bool := t == n || (t == "bool" && n == "int")
def tyNames : List String := ["bool", "int", "str", "list", "tuple", "dict"]
theorem rd_tyX {H : Hp} {v : V} {d : D} (hp : d.plain = true) (h : Rep K H v d) : TyX K H v (.type d.ty) := by
  cases h with
  | non => exact .base .non
  | bl b => exact .base (.bl b)
  | int b => exact .base (.int b)
  | str b => exact .base (.str b)
  | lst a b => exact .base (.lst a)
  | tup a b => exact .base (.tup a)
  | kt a b =>
    rcases a with (a | ⟨o, a⟩) | ⟨o, its, n, a, c, _⟩
    · exact .base (.tup a)
    · exact .fTuple a
    · exact .kTuple a c
  | dk a b c =>
    rcases a with a | ⟨o, a⟩
    · exact .base (.dK a)
    · exact .fDict a
  | dt a b c => cases hp
  | ins a b c => cases hp
  | scr a => cases hp
theorem kit_names : ∀ t ∈ ["NoneType", "bool", "int", "str", "list", "tuple", "dict"], ∀ n ∈ tyNames, kitB t n = some (tyIs t n) := by decide +kernel
theorem kit_d {d : D} (hp : d.plain = true) {n : String} (hn : n ∈ tyNames) : PySem.W.kitOne K (.type d.ty) (.type n) = some (tyIs d.ty n) :=
  kit_ty (kit_names d.ty (by cases d <;> first | (simp [D.ty]; done) | cases hp) n hn)
theorem ew_isi {n : String} (hn : n ∈ tyNames) (h : EvW K te ρ fun d ρ1 => d.plain = true ∧ Q (.bl (tyIs d.ty n)) ρ1) : EvW K (tCB (rIsi K) (tCons te (tCons (tC (.ty n)) tNil))) ρ Q := fun F G H σ R Q' k =>
  h F G H σ R _ fun v d ρ1 G1 H1 e1 R1 hv q => ⟨v, .ty n, _, .type n, _, rfl, .ty n, rd_tyX q.1 (hv.mono R1.wd.g), kit_d q.1 hn, k _ _ ρ1 G1 H1 e1 R1 (.bl _) q.2⟩
theorem kitAny_names {d : D} (hp : d.plain = true) : ∀ (ns : List String), (∀ n ∈ ns, n ∈ tyNames) → PySem.W.kitAny K (.type d.ty) (ns.map Value.type) = some (ns.any fun n => tyIs d.ty n)
  | [], _ => kitAny_nil
  | n :: ns, h => by
    refine kitAny_cons (kit_d hp (h n List.mem_cons_self)) (fun e => ?_) (fun e => ?_)
    · rw [kitAny_names hp ns (fun m hm => h m (List.mem_cons_of_mem _ hm)), List.any_cons, e, Bool.false_or]
    · rw [List.any_cons, e, Bool.true_or]
/-- isinstance(x, (list, tuple)) -/
theorem ew_isi2 {n m : String} (hn : n ∈ tyNames) (hm : m ∈ tyNames) (h : EvW K te ρ fun d ρ1 => d.plain = true ∧ Q (.bl (tyIs d.ty n || tyIs d.ty m)) ρ1) :
    EvW K (tCB (rIsiT K) (tCons te (tCons (tTup (tCons (tC (.ty n)) (tCons (tC (.ty m)) tNil))) tNil))) ρ Q := fun F G H σ R Q' k =>
  h F G H σ R _ fun v d ρ1 G1 H1 e1 R1 hv q => ⟨by show 2 ≤ sizeLine; decide, fun p hp => by
    have e2 : Ex G1 (upd G1 p (.tup [.ty n, .ty m])) := Ex.new (R1.wd.g.none hp)
    have R2 := R1.new (o := .tup [.ty n, .ty m]) hp
    refine ⟨v, p, [.ty n, .ty m], _, [.type n, .type m], _, rfl, upd_same, .cons (.ty n) (.cons (.ty m) .nil), rd_tyX q.1 ((hv.mono e2).mono R2.wd.g), kitAny_names q.1 [n, m] ?_, ?_⟩
    · intro x hx
      simp at hx
      rcases hx with rfl | rfl
      · exact hn
      · exact hm
    · refine k _ _ ρ1 _ _ (e1.trans e2) R2 (.bl _) ?_
      have e : ([n, m].any fun z => tyIs d.ty z) = (tyIs d.ty n || tyIs d.ty m) := by simp
      rw [e]; exact q.2⟩
theorem ew_isi4 {n m o l : String} (hn : n ∈ tyNames) (hm : m ∈ tyNames) (ho : o ∈ tyNames) (hl : l ∈ tyNames) (h : EvW K te ρ fun d ρ1 => d.plain = true ∧ Q (.bl (tyIs d.ty n || (tyIs d.ty m || (tyIs d.ty o || tyIs d.ty l)))) ρ1) :
    EvW K (tCB (rIsiT K) (tCons te (tCons (tTup (tCons (tC (.ty n)) (tCons (tC (.ty m)) (tCons (tC (.ty o)) (tCons (tC (.ty l)) tNil))))) tNil))) ρ Q := fun F G H σ R Q' k =>
  h F G H σ R _ fun v d ρ1 G1 H1 e1 R1 hv q => ⟨by show 4 ≤ sizeLine; decide, fun p hp => by
    have e2 : Ex G1 (upd G1 p (.tup [.ty n, .ty m, .ty o, .ty l])) := Ex.new (R1.wd.g.none hp)
    have R2 := R1.new (o := .tup [.ty n, .ty m, .ty o, .ty l]) hp
    refine ⟨v, p, [.ty n, .ty m, .ty o, .ty l], _, [.type n, .type m, .type o, .type l], _, rfl, upd_same, .cons (.ty n) (.cons (.ty m) (.cons (.ty o) (.cons (.ty l) .nil))), rd_tyX q.1 ((hv.mono e2).mono R2.wd.g), kitAny_names q.1 [n, m, o, l] ?_, ?_⟩
    · intro x hx
      simp at hx
      rcases hx with rfl | rfl | rfl | rfl <;> assumption
    · refine k _ _ ρ1 _ _ (e1.trans e2) R2 (.bl _) ?_
      have e : ([n, m, o, l].any fun z => tyIs d.ty z) = (tyIs d.ty n || (tyIs d.ty m || (tyIs d.ty o || tyIs d.ty l))) := by simp
      rw [e]; exact q.2⟩
/-! ### len -/
def rLenU (K : PySem.W.Frag) : List V → Hp → VK → Prop := fun xs H Q => ((∃ p ys, xs = [.ref p] ∧ (SqL K H p ys ∨ SqT K H p ys) ∧ Q (.int ys.length) H) ∨ ∃ z, xs = [.str z] ∧ z.length ≤ sizeLine ∧ Q (.int z.length) H) ∨ ∃ a kvs, xs = [V.ref a] ∧ H a = some (.dK kvs) ∧ Q (.int kvs.length) H
theorem call_lenU {X : Cx} : CallR X (.builtin "len") (rLenU X.K) := CallR.or (CallR.or call_len_seq call_len_str) call_lenD
theorem opa_len_lst {xs : List D} (q : Q (.int xs.length) ρ) : OpA K (rLenU K) [.lst xs] ρ Q := fun F G H σ R vs hv Q' k => by
  obtain ⟨v, rfl, h⟩ := hv.one
  obtain ⟨a, ws, rfl, h1, h2⟩ := rep_lst h
  refine .inl (.inl ⟨a, ws, rfl, .inl (.inl (.inl (R.wd.g _ _ h1))), ?_⟩)
  rw [h2.length]; exact k _ _ ρ G H (Ex.refl G) R (.int _) q
theorem opa_len_tup {xs : List D} (q : Q (.int xs.length) ρ) : OpA K (rLenU K) [.tup xs] ρ Q := fun F G H σ R vs hv Q' k => by
  obtain ⟨v, rfl, h⟩ := hv.one
  obtain ⟨a, ws, rfl, h1, h2⟩ := rep_tup h
  refine .inl (.inl ⟨a, ws, rfl, .inr (R.wd.g.sqT h1), ?_⟩)
  rw [h2.length]; exact k _ _ ρ G H (Ex.refl G) R (.int _) q
theorem opa_len_str {x : Str} (hx : x.length ≤ 100000) (q : Q (.int x.length) ρ) : OpA K (rLenU K) [.str x] ρ Q := fun F G H σ R vs hv Q' k => by
  obtain ⟨v, rfl, h⟩ := hv.one
  rw [rep_str h]
  exact .inl (.inr ⟨x, rfl, big hx, k _ _ ρ G H (Ex.refl G) R (.int _) q⟩)
/-! ### all, any of a list of bools -/
theorem reps_bls {H : Hp} : ∀ {vs : List V} {bs : List Bool}, Reps K H vs (bs.map D.bl) → vs = bs.map V.bl
  | _, [], h => h.nil_inv
  | _, b :: bs, h => by
    obtain ⟨v, ws, rfl, h1, h2⟩ := h.cons_inv
    rw [rep_bl h1, reps_bls h2]; rfl
theorem opa_all {bs : List Bool} (q : Q (.bl (bs.all id)) ρ) : OpA K (rAll K) [.lst (bs.map D.bl)] ρ Q := fun F G H σ R vs hv Q' k => by
  obtain ⟨v, rfl, h⟩ := hv.one
  obtain ⟨a, ws, rfl, h1, h2⟩ := rep_lst h
  rw [reps_bls h2] at h1
  exact ⟨a, bs, rfl, .inl (.inl (R.wd.g _ _ h1)), k _ _ ρ G H (Ex.refl G) R (.bl _) q⟩
/-! ### walks -/
/-- an iterator that gives the data ds, while what is shared at G stands -/
structure Yields (K : PySem.W.Frag) (G : Hp) (J : It) (ds : List D) : Prop where
  go : ∀ F G2 H2 σ ρ i, Ex G G2 → RE K F G2 H2 σ ρ → i < ds.length → J.go i H2
  stop : ∀ F G2 H2 σ ρ, Ex G G2 → RE K F G2 H2 σ ρ → J.stop ds.length H2
  yld : ∀ F G2 H2 σ ρ i x H3, Ex G G2 → RE K F G2 H2 σ ρ → i < ds.length → J.yld i H2 x H3 → ∃ G3 d, Ex G2 G3 ∧ RE K F G3 H3 σ ρ ∧ ds[i]? = some d ∧ Rep K G3 x d
def EvI (K : PySem.W.Frag) (wi : TI) (ρ : Env) (Q : List D → Env → Prop) : Prop := ∀ F G H σ, RE K F G H σ ρ → ∀ R' : It → Hp → Prop,
  (∀ J ds ρ' G' H', Ex G G' → RE K F G' H' σ ρ' → Yields K G' J ds → Q ds ρ' → R' J H') → wi σ H R'
theorem reps_at {H : Hp} {vs : List V} {ds : List D} {i : Nat} {x : V} (h : Reps K H vs ds) (e : vs[i]? = some x) : ∃ d, ds[i]? = some d ∧ Rep K H x d := h.getV e
theorem yl_list {G : Hp} {a : Addr} {vs : List V} {ds : List D} (h1 : G a = some (.lst vs)) (h2 : Reps K G vs ds) : Yields K G (Itl K a) ds where
  go := fun F G2 H2 σ ρ i e R hi => ⟨vs, vs[i]'(by rw [h2.length]; exact hi), .inl (.inl (R.wd.g _ _ (e _ _ h1))), by rw [List.getElem?_eq_getElem]⟩
  stop := fun F G2 H2 σ ρ e R => ⟨vs, .inl (.inl (R.wd.g _ _ (e _ _ h1))), by rw [h2.length]; exact Nat.le_refl _⟩
  yld := fun F G2 H2 σ ρ i x H3 e R hi y => by
    obtain ⟨rfl, y⟩ := y
    obtain ⟨d, hd, hx⟩ := h2.getV (y vs (.inl (.inl (R.wd.g _ _ (e _ _ h1)))))
    exact ⟨G2, d, Ex.refl _, R, hd, hx.mono e⟩
theorem yl_tup {G : Hp} {a : Addr} {vs : List V} {ds : List D} (h1 : G a = some (.tup vs)) (h2 : Reps K G vs ds) : Yields K G (Itt K a) ds where
  go := fun F G2 H2 σ ρ i e R hi => ⟨vs, vs[i]'(by rw [h2.length]; exact hi), R.wd.g.sqT (e _ _ h1), by rw [List.getElem?_eq_getElem]⟩
  stop := fun F G2 H2 σ ρ e R => ⟨vs, R.wd.g.sqT (e _ _ h1), by rw [h2.length]; exact Nat.le_refl _⟩
  yld := fun F G2 H2 σ ρ i x H3 e R hi y => by
    obtain ⟨rfl, y⟩ := y
    obtain ⟨d, hd, hx⟩ := h2.getV (y vs (R.wd.g.sqT (e _ _ h1)))
    exact ⟨G2, d, Ex.refl _, R, hd, hx.mono e⟩
theorem yl_range {G : Hp} {lo : Int} {n : Nat} : Yields K G (Itr lo n) ((List.range n).map fun (i : Nat) => D.int (lo + (i : Int))) where
  go := fun F G2 H2 σ ρ i e R hi => by
    show i < n
    simpa using hi
  stop := fun F G2 H2 σ ρ e R => by
    show n ≤ _
    simp
  yld := fun F G2 H2 σ ρ i x H3 e R hi y => by
    obtain ⟨rfl, rfl⟩ := y
    have hi' : i < n := by simpa using hi
    exact ⟨G2, .int (lo + i), Ex.refl _, R, by simp [hi'], .int _⟩
theorem yl_str {G : Hp} {x : Str} : Yields K G (Its x) (x.cps.toList.map fun c => D.str ⟨#[c]⟩) where
  go := fun F G2 H2 σ ρ i e R hi => by
    show i < x.cps.size
    simpa using hi
  stop := fun F G2 H2 σ ρ e R => by
    show x.cps.size ≤ _
    simp
  yld := fun F G2 H2 σ ρ i v H3 e R hi y => by
    obtain ⟨rfl, c, hc, rfl⟩ := y
    refine ⟨G2, .str ⟨#[c]⟩, Ex.refl _, R, ?_, .str _⟩
    rw [List.getElem?_map, Array.getElem?_toList, hc]; rfl
/-- the walk of a list or a tuple: both derivations -/
theorem pi_or {X : Cx} {tg it : Expr} {w w' : TI} (h : PI X tg it w) (h' : PI X tg it w') : PI X tg it (fun σ H R => w σ H R ∨ w' σ H R) :=
  ⟨fun pins s σ H R I q => q.elim (fun q => h.run pins s σ H R I q) fun q => h'.run pins s σ H R I q⟩
theorem ei_inl {w w' : TI} {Q : List D → Env → Prop} (h : EvI K w ρ Q) : EvI K (fun σ H R => w σ H R ∨ w' σ H R) ρ Q := fun F G H σ R R' k => .inl (h F G H σ R R' k)
theorem ei_inr {w w' : TI} {Q : List D → Env → Prop} (h : EvI K w' ρ Q) : EvI K (fun σ H R => w σ H R ∨ w' σ H R) ρ Q := fun F G H σ R R' k => .inr (h F G H σ R R' k)
theorem ei_list {Q : List D → Env → Prop} (h : EvW K te ρ fun d ρ1 => ∃ ds, d = .lst ds ∧ Q ds ρ1) : EvI K (iList K te) ρ Q := fun F G H σ R R' k =>
  h F G H σ R _ fun v d ρ1 G1 H1 e1 R1 hv q => by
    obtain ⟨ds, rfl, q⟩ := q
    obtain ⟨a, vs, rfl, h1, h2⟩ := rep_lst hv
    exact ⟨a, rfl, ⟨vs, .inl (.inl (R1.wd.g _ _ h1))⟩, k _ ds ρ1 G1 H1 e1 R1 (yl_list h1 h2) q⟩
theorem ei_tup {Q : List D → Env → Prop} (h : EvW K te ρ fun d ρ1 => ∃ ds, d = .tup ds ∧ Q ds ρ1) : EvI K (iTup K te) ρ Q := fun F G H σ R R' k =>
  h F G H σ R _ fun v d ρ1 G1 H1 e1 R1 hv q => by
    obtain ⟨ds, rfl, q⟩ := q
    obtain ⟨a, vs, rfl, h1, h2⟩ := rep_tup hv
    exact ⟨a, rfl, ⟨vs, R1.wd.g.sqT h1⟩, k _ ds ρ1 G1 H1 e1 R1 (yl_tup h1 h2) q⟩
theorem ei_str {Q : List D → Env → Prop} (h : EvW K te ρ fun d ρ1 => ∃ x, d = .str x ∧ Q (x.cps.toList.map fun c => D.str ⟨#[c]⟩) ρ1) : EvI K (iStr te) ρ Q := fun F G H σ R R' k =>
  h F G H σ R _ fun v d ρ1 G1 H1 e1 R1 hv q => by
    obtain ⟨x, rfl, q⟩ := q
    rw [rep_str hv]
    exact ⟨x, rfl, k _ _ ρ1 G1 H1 e1 R1 yl_str q⟩
theorem ei_range1 {Q : List D → Env → Prop} (h : EvA K ts ρ fun ds ρ1 => ∃ j : Int, ds = [.int j] ∧ -100000 ≤ j ∧ j ≤ 100000 ∧ Q ((List.range j.toNat).map fun (i : Nat) => D.int (0 + (i : Int))) ρ1) : EvI K (iRng1 ts) ρ Q := fun F G H σ R R' k =>
  h F G H σ R _ fun vs ds ρ1 G1 H1 e1 R1 hv q => by
    obtain ⟨j, rfl, h1, h2, q⟩ := q
    obtain ⟨v, rfl, hv1⟩ := hv.one
    rw [rep_int hv1]
    exact ⟨j, rfl, by omega, by omega, k _ _ ρ1 G1 H1 e1 R1 yl_range q⟩
/-- for -/
theorem ws_for {wi : TI} {g : TG} {t : TS} {E : EndD} (h : EvI K wi ρ fun ds ρ1 => ∃ P : Nat → Env → Prop, P 0 ρ1 ∧
      (∀ i d ρ', ds[i]? = some d → P i ρ' → GW K g d ρ' fun ρ2 => WS K t ρ2 { E with nx := P (i + 1), ct := P (i + 1), bk := E.nx }) ∧ ∀ ρ', P ds.length ρ' → E.nx ρ') : WS K (tFor wi g t) ρ E := fun F G H σ Dn R L =>
  h F G H σ R _ fun J ds ρ1 G1 H1 e1 R1 Y q => by
    obtain ⟨P, p0, turn, fin⟩ := q
    refine ⟨fun i m σ' H' => m + i = ds.length ∧ ∃ ρ' G', Ex G1 G' ∧ RE K F G' H' σ' ρ' ∧ P i ρ', ⟨ds.length, rfl, ρ1, G1, Ex.refl _, R1, p0⟩, ?_⟩
    rintro i m σ' H' ⟨hm, ρ', G', e', R', p⟩
    by_cases hi : i < ds.length
    · refine .inr ⟨Y.go F G' H' σ' ρ' i e' R' hi, fun σ2 H2 => ∃ ρ2 G2, Ex G1 G2 ∧ RE K F G2 H2 σ2 ρ2 ∧ P (i + 1) ρ2, fun σ2 H2 z => ⟨m - 1, by omega, by omega, z⟩, fun x H2 y => ?_⟩
      obtain ⟨G2, d, e2, R2, hd, hx⟩ := Y.yld F G' H' σ' ρ' i x H2 e' R' hi y
      refine turn i d ρ' hd p F G2 H2 σ' x R2 hx _ fun σ3 ρ3 G3 H3 e3 R3 w3 => ?_
      refine w3 F G3 H3 σ3 _ R3 ⟨fun σ4 ρ4 G4 H4 e4 R4 p4 => ⟨ρ4, G4, ((e'.trans e2).trans e3).trans e4, R4, p4⟩, fun v d σ4 ρ4 G4 H4 e4 R4 hv r4 => ?_, fun σ4 ρ4 G4 H4 e4 R4 p4 => ?_, fun σ4 ρ4 G4 H4 e4 R4 p4 => ⟨ρ4, G4, ((e'.trans e2).trans e3).trans e4, R4, p4⟩, fun p d σ4 ρ4 G4 H4 e4 R4 => L.ro p d σ4 ρ4 G4 H4 ((((e1.trans e').trans e2).trans e3).trans e4) R4, fun C f v d dx G4 H4 e4 => L.xx C f v d dx G4 H4 ((((e1.trans e').trans e2).trans e3).trans e4)⟩
      · exact L.rt v d σ4 ρ4 G4 H4 ((((e1.trans e').trans e2).trans e3).trans e4) R4 hv r4
      · exact L.nx σ4 ρ4 G4 H4 ((((e1.trans e').trans e2).trans e3).trans e4) R4 p4
    · have ei : i = ds.length := by omega
      subst ei
      exact .inl ⟨Y.stop F G' H' σ' ρ' e' R', L.nx σ' ρ' G' H' (e1.trans e') R' (fin ρ' p)⟩
/-- the names of a comprehension forgotten -/
def wipeE (ρ : Env) : List Nat → Env
  | [] => ρ
  | v :: vs => (wipeE ρ vs).set v .un
theorem RE.wipe {F G H : Hp} {σ : L2.St} {ρ : Env} (R : RE K F G H σ ρ) : ∀ vs : List Nat, RE K F G H (L2.wipe σ vs) (wipeE ρ vs)
  | [] => R
  | v :: vs => (RE.wipe R vs).setUn v
theorem wipe_at : ∀ {σ : L2.St} {vs : List Nat} {i : Nat}, i ∉ vs → (L2.wipe σ vs)[i]? = σ[i]?
  | _, [], _, _ => rfl
  | σ, v :: vs, i, h => by
    show ((L2.wipe σ vs).set v none)[i]? = _
    rw [List.getElem?_set_ne (fun z => h (by rw [z]; exact List.mem_cons_self)), wipe_at fun z => h (List.mem_cons_of_mem _ z)]
theorem wipe_in : ∀ {σ : L2.St} {vs : List Nat} {i : Nat}, i ∈ vs → (L2.wipe σ vs)[i]? = if i < σ.length then some none else none
  | _, [], _, h => by cases h
  | σ, v :: vs, i, h => by
    show ((L2.wipe σ vs).set v none)[i]? = _
    by_cases e : v = i
    · subst e
      rw [List.getElem?_set]
      simp [L2.wipe_length]
    · rw [List.getElem?_set_ne e]
      rcases List.mem_cons.mp h with z | z
      · exact absurd z.symm e
      · exact wipe_in z
theorem wipeE_at : ∀ {ρ : Env} {vs : List Nat} {i : Nat}, i ∉ vs → (wipeE ρ vs)[i]? = ρ[i]?
  | _, [], _, _ => rfl
  | ρ, v :: vs, i, h => by
    show ((wipeE ρ vs).set v Sl.un)[i]? = _
    rw [List.getElem?_set_ne (fun z => h (by rw [z]; exact List.mem_cons_self)), wipeE_at fun z => h (List.mem_cons_of_mem _ z)]
theorem wipe_eq {σ σ' : L2.St} {vs : List Nat} (hl : σ'.length = σ.length) (h : ∀ i, i ∉ vs → σ'[i]? = σ[i]?) : L2.wipe σ' vs = L2.wipe σ vs := by
  apply List.ext_getElem?
  intro i
  by_cases m : i ∈ vs
  · rw [wipe_in m, wipe_in m, hl]
  · rw [wipe_at m, wipe_at m, h i m]
/-- a slot with an object of its own -/
def Sl.isOwn : Sl → Bool
  | .own _ _ => true
  | .drw _ => true
  | .two _ _ _ _ => true
  | .tab _ _ _ => true
  | _ => false
/-- none of the slots vs has an object of its own -/
def ownFree : Env → List Nat → Bool
  | _, [] => true
  | ρ, v :: vs => (match ρ[v]? with
    | some r => !r.isOwn
    | none => true) && ownFree ρ vs
theorem ownFree_at : ∀ {ρ : Env} {vs : List Nat}, ownFree ρ vs = true → ∀ (i : Nat) (r : Sl), ρ[i]? = some r → r.isOwn = true → i ∉ vs
  | _, [], _, _, _, _, _ => by simp
  | ρ, v :: vs, h, i, r, hr, ho => fun m => by
    unfold ownFree at h
    rw [Bool.and_eq_true] at h
    rcases List.mem_cons.mp m with e | m
    · subst e
      rw [hr] at h
      simp [ho] at h
    · exact ownFree_at h.2 i r hr ho m
theorem Slots.join {F G G' H H' : Hp} (e : Ex G G') {σ σ' : L2.St} {ρ ρ' : Env} (h : Slots K F G H σ ρ) (h' : Slots K F G' H' σ' ρ') (k : ∀ (i : Nat) (r : Sl), ρ[i]? = some r → r.isOwn = true → ρ'[i]? = some r ∧ σ'[i]? = σ[i]?) : Slots K F G' H' σ ρ :=
  h.map fun i s r hs hr q => by
    cases ho : r.isOwn with
    | true =>
      obtain ⟨z1, z2⟩ := k i r hr ho
      obtain ⟨s', h1, h2⟩ := h'.get z1
      rw [z2, hs] at h1
      cases h1
      exact h2
    | false => exact q.step e fun a m => by cases r <;> first | (cases ho; done) | (cases m; done)
section
variable {F G H : Hp} {σ : L2.St} {p : Addr} {o : HO}
theorem Slots.frm (hp : ∀ a, a ∈ ownA ρ → a ≠ p) (h : Slots K F G H σ ρ) : Slots K (upd F p o) G H σ ρ :=
  h.map fun i s r _ hr q => SlotOk.frm q fun a m => by rw [upd_ne (hp a (adr_mem hr m))]; exact (q.own m).2.1
theorem Slots.unfrm {σ : L2.St} {ρ : Env} (hF : F p = none) (h : Slots K (upd F p o) G H σ ρ) : Slots K F G H σ ρ :=
  h.map fun i s r _ hr q => SlotOk.frm q fun a m => by
    have z := (q.own m).2.1
    by_cases e : a = p
    · rw [e]; exact hF
    · rw [upd_ne e] at z; exact z
/-- an object of nobody's stands by -/
theorem RE.frm (R : RE K F G H σ ρ) (hp : H p = some o) (hG : G p = none) (hO : p ∉ ownA ρ) (nt : NT o) : RE K (upd F p o) G H σ ρ := by
  refine ⟨⟨fun a u e => ?_, R.wd.g, fun a u e => ?_, fun a vs e => ?_⟩, R.sl.frm (fun a m z => hO (z ▸ m)), R.nd⟩
  · by_cases z : a = p
    · subst z; rw [upd_same] at e; rw [← e]; exact hp
    · rw [upd_ne z] at e; exact R.wd.f a u e
  · by_cases z : a = p
    · subst z; exact hG
    · rw [upd_ne z] at e; exact R.wd.fg a u e
  · by_cases z : a = p
    · subst z; rw [upd_same] at e; cases e; exact nt vs rfl
    · rw [upd_ne z] at e; exact R.wd.ft a vs e
theorem RE.unfrm (R : RE K (upd F p o) G H σ ρ) (hF : F p = none) : RE K F G H σ ρ ∧ H p = some o ∧ G p = none := by
  have e : upd F p o p = some o := upd_same
  refine ⟨⟨⟨fun a u q => ?_, R.wd.g, fun a u q => ?_, fun a vs q => R.wd.ft a vs (by rw [upd_ne (ne_of_none q hF)]; exact q)⟩, R.sl.unfrm hF, R.nd⟩, R.wd.f p o e, R.wd.fg p o e⟩
  · exact R.wd.f a u (by rw [upd_ne (ne_of_none q hF)]; exact q)
  · exact R.wd.fg a u (by rw [upd_ne (ne_of_none q hF)]; exact q)
theorem RE.aloneU (R : RE K F G H σ ρ) (hG : G p = none) (hF : F p = none) (hO : p ∉ ownA ρ) : RE K F G (upd H p o) σ ρ := by
  refine ⟨⟨fun a u e => ?_, fun a u e => ?_, R.wd.fg, R.wd.ft⟩, R.sl.step (Ex.refl G) (fun a m => ⟨upd_ne fun z => hO (z ▸ m), (R.sl.own m).1⟩), R.nd⟩
  · rw [upd_ne (ne_of_none e hF)]; exact R.wd.f a u e
  · rw [upd_ne (ne_of_none e hG)]; exact R.wd.g a u e
end
/-- a target of a comprehension: it stores in the slots vs -/
def GV (K : PySem.W.Frag) (g : TG) (vs : List Nat) (d : D) (ρ : Env) (Q : Env → Prop) : Prop := ∀ F G H σ v, RE K F G H σ ρ → Rep K G v d → ∀ Q' : L2.St → Hp → Prop,
  (∀ σ' ρ', σ'.length = σ.length → (∀ i, i ∉ vs → σ'[i]? = σ[i]? ∧ ρ'[i]? = ρ[i]?) → RE K F G H σ' ρ' → Q ρ' → Q' σ' H) → g v σ H Q'
def GVs (K : PySem.W.Frag) (g : TGs) (vs : List Nat) (ds : List D) (ρ : Env) (Q : Env → Prop) : Prop := ∀ F G H σ ws, RE K F G H σ ρ → Reps K G ws ds → ∀ Q' : L2.St → Hp → Prop,
  (∀ σ' ρ', σ'.length = σ.length → (∀ i, i ∉ vs → σ'[i]? = σ[i]? ∧ ρ'[i]? = ρ[i]?) → RE K F G H σ' ρ' → Q ρ' → Q' σ' H) → g ws σ H Q'
theorem gv_name {i : Nat} {vs : List Nat} {d : D} {Q : Env → Prop} (hi : i ∈ vs) (h : Q (ρ.set i (.sh d))) : GV K (gName i) vs d ρ Q := fun F G H σ v R hv Q' k =>
  k _ _ (List.length_set) (fun j hj => ⟨List.getElem?_set_ne fun (z : i = j) => hj (by rw [← z]; exact hi), List.getElem?_set_ne fun (z : i = j) => hj (by rw [← z]; exact hi)⟩) (R.setSh hv i) h
theorem gvs_nil {vs : List Nat} {Q : Env → Prop} (h : Q ρ) : GVs K gNil vs [] ρ Q := fun F G H σ ws R hv Q' k => ⟨hv.nil_inv, k σ ρ rfl (fun _ _ => ⟨rfl, rfl⟩) R h⟩
theorem gvs_cons {g : TG} {gs : TGs} {vs : List Nat} {d : D} {ds : List D} {Q : Env → Prop} (h : GV K g vs d ρ fun ρ1 => GVs K gs vs ds ρ1 Q) : GVs K (gCons g gs) vs (d :: ds) ρ Q := fun F G H σ ws R hv Q' k => by
  obtain ⟨v, us, rfl, h1, h2⟩ := hv.cons_inv
  exact ⟨v, us, rfl, h F G H σ v R h1 _ fun σ1 ρ1 l1 s1 R1 q1 => q1 F G H σ1 us R1 h2 Q' fun σ2 ρ2 l2 s2 R2 q2 => k σ2 ρ2 (l2.trans l1) (fun i hi => ⟨(s2 i hi).1.trans (s1 i hi).1, (s2 i hi).2.trans (s1 i hi).2⟩) R2 q2⟩
theorem gv_tup {n : Nat} {gs : TGs} {vs : List Nat} {ds : List D} {Q : Env → Prop} (hn : ds.length = n) (h : GVs K gs vs ds ρ Q) : GV K (gTup K n gs) vs (.tup ds) ρ Q := fun F G H σ v R hv Q' k => by
  obtain ⟨a, us, rfl, h1, h2⟩ := rep_tup hv
  exact ⟨a, us, rfl, R.wd.g.sqT h1, by rw [h2.length]; exact hn, h F G H σ us R h2 Q' k⟩
/-- [te for g in wi if tt], the names vs within; what is own stays as it is -/
theorem en_lc {wi : TI} {g : TG} {vs : List Nat} (h : EvI K wi ρ fun ds ρ1 => ownFree ρ1 vs = true ∧ ds.length ≤ 90000 ∧ ∃ P : Nat → List D → Prop, P 0 [] ∧
      (∀ i d acc, ds[i]? = some d → P i acc → GV K g vs d (wipeE ρ1 vs) fun ρ2 => EvT K tt ρ2 fun b ρ3 => ρ3 = ρ2 ∧ if b = true then EvW K te ρ2 fun y ρ4 => ρ4 = ρ2 ∧ P (i + 1) (acc ++ [y]) else P (i + 1) acc) ∧
      ∀ acc, P ds.length acc → Q (.lst acc) ρ1) : EvN K (tLc wi g tt te vs) ρ Q := fun F G H σ R Q' k =>
  h F G H σ R _ fun J ds ρ1 G1 H1 e1 R1 Y q => fun Dd hD => by
    obtain ⟨hv0, hlen, P, p0, turn, fin⟩ := q
    have hv := ownFree_at hv0
    have hF0 : F Dd = none := R1.wd.f.none hD
    have hO : Dd ∉ ownA ρ1 := ownA_fresh R1 hD
    refine ⟨fun i m H' => m + i = ds.length ∧ ∃ acc accV G', Ex G1 G' ∧ RE K F G' H' σ ρ1 ∧ G' Dd = none ∧ H' Dd = some (.lst accV) ∧ Reps K G' accV acc ∧ acc.length ≤ i ∧ P i acc,
      ⟨ds.length, rfl, [], [], G1, Ex.refl _, R1.alone hD, R1.wd.g.none hD, upd_same, .nil, Nat.le_refl _, p0⟩, ?_⟩
    rintro i m H' ⟨hm, acc, accV, G', e', R', hG, hH, ra, hl, p⟩
    have Rf := R'.frm hH hG hO (fun _ z => nomatch z)
    by_cases hi : i < ds.length
    · refine .inr ⟨Y.go _ G' H' σ ρ1 i e' Rf hi, fun H2 => ∃ acc accV G2, Ex G1 G2 ∧ RE K F G2 H2 σ ρ1 ∧ G2 Dd = none ∧ H2 Dd = some (.lst accV) ∧ Reps K G2 accV acc ∧ acc.length ≤ i + 1 ∧ P (i + 1) acc, fun H2 z => ⟨m - 1, by omega, by omega, z⟩, fun x H2 y => ?_⟩
      obtain ⟨G2, d, e2, R2, hd, hx⟩ := Y.yld _ G' H' σ ρ1 i x H2 e' Rf hi y
      refine turn i d acc hd p _ G2 H2 _ x (R2.wipe vs) hx _ fun σ2 ρ2 l2 s2 R3 w3 => ?_
      refine ⟨?_, w3 _ G2 H2 σ2 R3 _ fun b ρ3 G4 H4 e4 R4 w4 => ?_⟩
      · have e0 : L2.wipe (L2.wipe σ vs) vs = L2.wipe σ vs := wipe_eq (L2.wipe_length σ vs) fun i hi => wipe_at hi
        rw [wipe_eq l2 fun i hi => (s2 i hi).1, e0]
      obtain ⟨rfl, w4⟩ := w4
      have back : ∀ {G5 H5 : Hp}, Ex G2 G5 → RE K (upd F Dd (.lst accV)) G5 H5 σ2 ρ3 → RE K F G5 H5 σ ρ1 ∧ H5 Dd = some (.lst accV) ∧ G5 Dd = none := fun {G5 H5} e5 R5 => by
        obtain ⟨R6, h6, g6⟩ := R5.unfrm hF0
        refine ⟨⟨R6.wd, Slots.join (e2.trans e5) R'.sl R6.sl (fun j r hr ho => ?_), R'.nd⟩, h6, g6⟩
        have hj := hv j r hr ho
        rw [(s2 j hj).1, (s2 j hj).2, wipe_at hj, wipeE_at hj]
        exact ⟨hr, rfl⟩
      cases b with
      | true =>
        refine w4 _ G4 H4 σ2 R4 _ fun v yv ρ5 G5 H5 e5 R5 hvy w5 => ?_
        obtain ⟨rfl, w5⟩ := w5
        obtain ⟨R6, h6, g6⟩ := back (e4.trans e5) R5
        refine ⟨accV, h6, by rw [ra.length]; exact bigl (by omega), acc ++ [yv], accV ++ [v], G5, ((e'.trans e2).trans e4).trans e5, R6.aloneU g6 hF0 hO, g6, upd_same, (ra.mono ((e2.trans e4).trans e5)).append (.cons hvy .nil), by simp; omega, w5⟩
      | false =>
        obtain ⟨R6, h6, g6⟩ := back e4 R4
        exact ⟨acc, accV, G4, (e'.trans e2).trans e4, R6, g6, h6, ra.mono (e2.trans e4), by omega, w4⟩
    · have ei : i = ds.length := by omega
      subst ei
      exact .inl ⟨Y.stop _ G' H' σ ρ1 e' R', k Dd (.lst acc) ρ1 G' H' (e1.trans e') R' hG hF0 hO ⟨accV, hH, ra⟩ (fin acc p)⟩
end
end DL

set_option Elab.async false
set_option linter.all false
set_option maxRecDepth 100000
namespace DL
open PySem PySem.Spec PyProof.Rows L2
/-! ### a def that keeps its promise, by name -/
structure FnB (P : Program) (w : World) (K : PySem.W.Frag) (mg : Str → Option Value) (base : Heap) (k : Nat) (x : Str) (ps : List Str) (sp : Sp) : Prop where
  ex : ∃ fd, FnOk P w K mg base CX0 k (He.ga K x) fd ps sp ∧ Binds K fd ps []
  kp : PySem.W.keepIn K (.ref (He.ga K x)) = true
  at_ : mg x = some (.ref (He.ga K x))
theorem FnB.mono {P : Program} {w : World} {K : PySem.W.Frag} {mg : Str → Option Value} {base : Heap} {j k : Nat} {x : Str} {ps : List Str} {sp : Sp} (F : FnB P w K mg base j x ps sp) (h : j ≤ k) : FnB P w K mg base k x ps sp := by
  obtain ⟨fd, h1, h2⟩ := F.ex
  exact ⟨⟨fd, h1.mono h, h2⟩, F.kp, F.at_⟩
theorem pe_callF {X : Cx} {k : Nat} {x : Str} {ps : List Str} {sp : Sp} {e : Expr} {es : List Expr} {t : TA} {p pos : Pos} (F : FnB X.prog X.w X.K X.mg X.base k x ps sp) (hr : Room k X.A) (ha : PA X (e :: es) t) (hg : Gl X x := by rfl)
    (he : starEach (e :: es) X.env = (false, eval e X.env) :: starEach es X.env := by rfl) (hpl : (backTo pos (starEach es X.env)).any (·.1) = false := by rfl) (hd : (x == ("__debug__" : Str)) = false := by decide) : PE X (.Call (.Name x p) (e :: es) [] pos) (tCall sp [] E0 t) := by
  obtain ⟨fd, h1, h2⟩ := F.ex
  exact pe_call h1 hr hg F.at_ F.kp h2 .nil pass0 ha hd he hpl
theorem slots_start {K : PySem.W.Frag} {F G H : Hp} : ∀ {vs : List V} {ds : List D} (n : Nat), Reps K G vs ds → Slots K F G H (vs.map some ++ List.replicate n none) (ds.map Sl.sh ++ List.replicate n Sl.un)
  | [], [], 0, _ => trivial
  | [], [], n + 1, h => ⟨trivial, slots_start (vs := []) (ds := []) n h⟩
  | [], _ :: _, _, h => by cases h
  | _ :: _, [], _, h => by cases h
  | _ :: _, _ :: _, n, h => by
    cases h with | cons a b => exact ⟨⟨_, rfl, a⟩, slots_start n b⟩
theorem ownA_un : ∀ n : Nat, ownA (List.replicate n Sl.un) = []
  | 0 => rfl
  | n + 1 => ownA_un n
theorem own_start : ∀ (ds : List D) (n : Nat), ownA (ds.map Sl.sh ++ List.replicate n Sl.un) = []
  | [], n => ownA_un n
  | d :: ds, n => own_start ds n
abbrev envP (N : List Str) (ds : List D) : Env := ds.map Sl.sh ++ List.replicate (N.length - ds.length) Sl.un
theorem fn_P {P : Program} {w : World} {K : PySem.W.Frag} {mg : Str → Option Value} {base : Heap} {x qual : Str} {params : Arguments} {body : List Stmt} {scope : Scope} {fd : FuncData} {N ps : List Str} {k : Nat} {T : List D → (D → Prop) → Prop}
    (F : FunD K x qual params body scope [] [] (He.ga K x) fd) (at_ : mg x = some (.ref (He.ga K x)))
    (bi : ∀ (kV doc pm : Value) (an : Option Addr) (cdv ct : Value) (us : List Value), us.length = ps.length → bindArgs (PySem.W.fnOf x qual params body scope .none kV doc pm an cdv ct) ⟨us, []⟩ = pure (ps.zip us))
    (S : FnScope N ps scope) (hl : ∀ ds Qd, T ds Qd → ds.length = ps.length)
    (hb : ∀ (cdv : Value) (A : Around) (outer : List PySem.Env) (s : Shared) (H : Hp) (E : XK), Room k (A.deeper (envOfC qual scope s.heap.objs.size (He.ga K x) cdv)) →
      ∃ t, PSs (cxOf CX0 P w K mg base N qual scope (He.ga K x) cdv A outer s H E).nox body t ∧ ∀ ds Qd, T ds Qd → WS K t (envP N ds) { nx := fun _ => Qd .non, rt := fun d _ => Qd d }) :
    FnB P w K mg base (k + 1) x ps (spP K T) := by
  refine ⟨⟨fd, F.ok S (fun vs H Q E h => ?_) (fun cdv A outer s H vs Q E hr h => ?_), F.bindsN bi⟩, F.kp, at_⟩
  · obtain ⟨_, _, ds, Qd, _, r, t, _⟩ := h
    rw [r.length]; exact hl ds Qd t
  · obtain ⟨F', G, ds, Qd, W, r, tt, post⟩ := h
    obtain ⟨t, hd, hw⟩ := hb cdv A outer s H E hr
    refine ⟨t, PSs.nox hd, ?_⟩
    have R : RE K F' G H (L2.start N vs) (envP N ds) := by
      unfold L2.start
      refine ⟨W, by rw [r.length]; exact slots_start _ r, by rw [own_start]; exact List.nodup_nil⟩
    refine hw ds Qd tt F' G H (L2.start N vs) _ R ⟨fun σ' ρ' G' H' e R' q => ?_, fun v d σ' ρ' G' H' e R' hv q => ?_, fun σ' ρ' G' H' e R' q => q.elim, fun σ' ρ' G' H' e R' q => q.elim, fun p d σ' ρ' G' H' e R' _ _ _ _ q => q.elim, fun C f v d dx G' H' _ _ _ _ _ _ q => q.elim⟩
    · exact post .non .non G' H' e R'.wd .non q
    · exact post v d G' H' e R'.wd hv q
/-- .. that hands back a new object -/
theorem fn_N {P : Program} {w : World} {K : PySem.W.Frag} {mg : Str → Option Value} {base : Heap} {x qual : Str} {params : Arguments} {body : List Stmt} {scope : Scope} {fd : FuncData} {N ps : List Str} {k : Nat} {T : List D → (D → Prop) → Prop}
    (F : FunD K x qual params body scope [] [] (He.ga K x) fd) (at_ : mg x = some (.ref (He.ga K x)))
    (bi : ∀ (kV doc pm : Value) (an : Option Addr) (cdv ct : Value) (us : List Value), us.length = ps.length → bindArgs (PySem.W.fnOf x qual params body scope .none kV doc pm an cdv ct) ⟨us, []⟩ = pure (ps.zip us))
    (S : FnScope N ps scope) (hl : ∀ ds Qd, T ds Qd → ds.length = ps.length)
    (hb : ∀ (cdv : Value) (A : Around) (outer : List PySem.Env) (s : Shared) (H : Hp) (E : XK), Room k (A.deeper (envOfC qual scope s.heap.objs.size (He.ga K x) cdv)) →
      ∃ t, PSs (cxOf CX0 P w K mg base N qual scope (He.ga K x) cdv A outer s H E).nox body t ∧ ∀ ds Qd, T ds Qd → WS K t (envP N ds) { nx := fun _ => False, rt := fun _ _ => False, ro := fun d _ => Qd d }) :
    FnB P w K mg base (k + 1) x ps (spN K T) := by
  refine ⟨⟨fd, F.ok S (fun vs H Q E h => ?_) (fun cdv A outer s H vs Q E hr h => ?_), F.bindsN bi⟩, F.kp, at_⟩
  · obtain ⟨_, _, ds, Qd, _, r, t, _⟩ := h
    rw [r.length]; exact hl ds Qd t
  · obtain ⟨F', G, ds, Qd, W, r, tt, post⟩ := h
    obtain ⟨t, hd, hw⟩ := hb cdv A outer s H E hr
    refine ⟨t, PSs.nox hd, ?_⟩
    have R : RE K F' G H (L2.start N vs) (envP N ds) := by
      unfold L2.start
      refine ⟨W, by rw [r.length]; exact slots_start _ r, by rw [own_start]; exact List.nodup_nil⟩
    refine hw ds Qd tt F' G H (L2.start N vs) _ R ⟨fun σ' ρ' G' H' e R' q => q.elim, fun v d σ' ρ' G' H' e R' hv q => q.elim, fun σ' ρ' G' H' e R' q => q.elim, fun σ' ρ' G' H' e R' q => q.elim, fun p d σ' ρ' G' H' e R' hG hF hO o q => ?_, fun C f v d dx G' H' _ _ _ _ _ _ q => q.elim⟩
    exact post p d G' H' e R'.wd hG hF o q
/-- .. whose first argument is the state of draws -/
abbrev envW (a : Addr) (N : List Str) (ds : List D) : Env := Sl.drw a :: (ds.map Sl.sh ++ List.replicate (N.length - 1 - ds.length) Sl.un)
theorem fn_W {P : Program} {w : World} {K : PySem.W.Frag} {mg : Str → Option Value} {base : Heap} {x qual : Str} {params : Arguments} {body : List Stmt} {scope : Scope} {fd : FuncData} {N ps : List Str} {k : Nat} {T : List D → (D → Prop) → Prop}
    (F : FunD K x qual params body scope [] [] (He.ga K x) fd) (at_ : mg x = some (.ref (He.ga K x)))
    (bi : ∀ (kV doc pm : Value) (an : Option Addr) (cdv ct : Value) (us : List Value), us.length = ps.length → bindArgs (PySem.W.fnOf x qual params body scope .none kV doc pm an cdv ct) ⟨us, []⟩ = pure (ps.zip us))
    (S : FnScope N ps scope) (hN : N ≠ []) (hl : ∀ ds Qd, T ds Qd → ds.length + 1 = ps.length)
    (hb : ∀ (cdv : Value) (A : Around) (outer : List PySem.Env) (s : Shared) (H : Hp) (E : XK), Room k (A.deeper (envOfC qual scope s.heap.objs.size (He.ga K x) cdv)) →
      ∃ t, PSs (cxOf CX0 P w K mg base N qual scope (He.ga K x) cdv A outer s H E).nox body t ∧ ∀ a ds Qd, T ds Qd → WS K t (envW a N ds) { nx := fun ρ => ρ[0]? = some (.drw a) ∧ Qd .non, rt := fun d ρ => ρ[0]? = some (.drw a) ∧ Qd d }) :
    FnB P w K mg base (k + 1) x ps (spW K T) := by
  refine ⟨⟨fd, F.ok S (fun vs H Q E h => ?_) (fun cdv A outer s H vs Q E hr h => ?_), F.bindsN bi⟩, F.kp, at_⟩
  · obtain ⟨a, ws, _, _, ds, Qd, rfl, _, _, _, _, r, t, _⟩ := h
    rw [List.length_cons, r.length]; exact hl ds Qd t
  · obtain ⟨a, ws, F', G, ds, Qd, rfl, W, hG, hF, hD, r, tt, post⟩ := h
    obtain ⟨t, hd, hw⟩ := hb cdv A outer s H E hr
    refine ⟨t, PSs.nox hd, ?_⟩
    have es : L2.start N (.ref a :: ws) = some (.ref a) :: (ws.map some ++ List.replicate (N.length - 1 - ws.length) none) := by
      unfold L2.start
      simp only [List.map_cons, List.cons_append, List.length_cons]
      rw [show N.length - (ws.length + 1) = N.length - 1 - ws.length by omega]
    have R : RE K F' G H (L2.start N (.ref a :: ws)) (envW a N ds) := by
      rw [es]
      refine ⟨W, ⟨⟨rfl, hG, hF, hD⟩, by rw [r.length]; exact slots_start _ r⟩, ?_⟩
      show (a :: ownA (ds.map Sl.sh ++ List.replicate (N.length - 1 - ds.length) Sl.un)).Nodup
      rw [own_start]
      simp
    have dr : ∀ {σ' : L2.St} {ρ' : Env} {G' H' : Hp}, RE K F' G' H' σ' ρ' → ρ'[0]? = some (.drw a) → G' a = none ∧ DrwR (H' a) := fun R' h0 => by
      obtain ⟨_, _, _, h1, _, h2⟩ := R'.sl.get h0
      exact ⟨h1, h2⟩
    refine hw a ds Qd tt F' G H _ _ R ⟨fun σ' ρ' G' H' e R' q => ?_, fun v d σ' ρ' G' H' e R' hv q => ?_, fun σ' ρ' G' H' e R' q => q.elim, fun σ' ρ' G' H' e R' q => q.elim, fun p d σ' ρ' G' H' e R' _ _ _ _ q => q.elim, fun C f v d dx G' H' _ _ _ _ _ _ q => q.elim⟩
    · exact post .non .non G' H' e R'.wd (dr R' q.1).1 (dr R' q.1).2 .non q.2
    · exact post v d G' H' e R'.wd (dr R' q.1).1 (dr R' q.1).2 hv q.2
end DL

set_option Elab.async false
set_option linter.all false
set_option maxRecDepth 100000
namespace DL
open PySem PySem.Spec PyProof.Rows L2
/-! ### enumerate over a tuple -/
set_option maxHeartbeats 1000000 in
theorem meets_enum1 {v : Value} {ob : Obj} {HB : Heap → Prop} (B : Begins v ob HB) :
    Meets (Builtin.«enumerate.__new__» ⟨[.type "enumerate", v], []⟩)
      (fun _ R s => HB s.heap ∧ R (.ok (.ret (.ref (s.heap.push ob).objs.size)))
        { s with heap := (s.heap.push ob).push { cls := .type "enumerate", data := .fields #[.none, .bool false, .ref s.heap.objs.size, rawInt 0, .none, .none] } }) := by
  refine .of_wp fun prog w A R s h => ?_
  obtain ⟨hp, gs, dr, tk, os⟩ := s
  obtain ⟨hb, hR⟩ := h
  have sube := sub_enumerate
  have begin1 : ∀ {A' : Around} {E' : Value → Shared → Prop} {Q' : Value → Shared → Prop}, Q' (.ref hp.objs.size) ⟨hp.push ob, gs, dr, tk, os⟩ → wpAny (model prog w) A' (pyIter v) Q' E' ⟨hp, gs, dr, tk, os⟩ := fun z => B.iter prog w _ _ ⟨hp, gs, dr, tk, os⟩ _ hb z
  wp_walk using begin1
  refine wpAny_stack_any fun stk => wpAny_pure ?_
  split
  · rename_i cc _ _ _ _ _
    cases (cc == Value.type "enumerate") <;> (wp_walk using begin1; exact ⟨_, rfl, hR⟩)
  · wp_walk using begin1
    exact ⟨_, rfl, hR⟩
theorem call_enum1 {prog : Program} {w : World} {A : Around} {E : Value → Shared → Prop} {s : Shared} {v : Value} {ob : Obj} {HB : Heap → Prop} {Q : Value → Shared → Prop} (B : Begins v ob HB) (hb : HB s.heap)
    (h : ∀ h', IsEnum h' (s.heap.objs.size + 1) s.heap.objs.size 0 .none → h'.get? s.heap.objs.size = some ob → (∀ b o, s.heap.get? b = some o → h'.get? b = some o) → Q (.ref (s.heap.objs.size + 1)) { s with heap := h' }) :
    wpAny (model prog w) A (call (.type "enumerate") [v]) Q E s := by
  refine callType_new F.called_enumerate (by decide) (F.typeCall_enumerate_1 _) (F.newCall_enumerate_1 _) (fun obj => F.args_object_init_2 obj _) F.entry_enumerate_new (meets_enum1 B) ⟨hb, ?_⟩
  have sz : (s.heap.push ob).objs.size = s.heap.objs.size + 1 := Heap.size_push ..
  have at0 := Heap.get?_push_size (s.heap.push ob) (o := { cls := .type "enumerate", data := .fields #[.none, .bool false, .ref s.heap.objs.size, rawInt 0, .none, .none] }) rfl
  rw [sz] at at0
  show _ ∧ _
  rw [sz]
  exact ⟨⟨_, at0, rfl⟩, h _ at0 (Heap.get?_push_of_some _ (Heap.get?_push_size _ B.free)) fun b o x => Heap.get?_push_of_some _ (Heap.get?_push_of_some _ x)⟩
/-- the tuple at a, each item in a new pair -/
def IteT (K : PySem.W.Frag) (a : Addr) : It where
  go := fun i H => ∃ (xs : List V) (x : V), SqT K H a xs ∧ xs[i]? = some x
  yld := fun i H v H' => ∃ T x, v = .ref T ∧ H T = none ∧ H' = upd H T (.tup [.int (i : Nat), x]) ∧ ∀ xs, SqT K H a xs → xs[i]? = some x
  stop := fun i H => ∃ xs : List V, SqT K H a xs ∧ xs.length = i
theorem turn_enumT {P : Program} {w : World} {K : PySem.W.Frag} {elts : List Expr} {kk : Nat} {tpos : Pos} (a e it : Addr) (hai : a ≠ it) (hae : e ≠ a) :
    Turn P w K (.Tuple elts kk tpos) (IteT K a) [e, it] e (fun i h => (∃ old, IsEnum h e it ((i : Nat) : Int) old) ∧ h.IsTupleIter it a i ∧ e ≠ it) where
  mem := by simp
  obj := fun i h st b hb => by
    obtain ⟨⟨old, he⟩, ⟨o, ho, hc, hd⟩, _⟩ := st
    rcases (show b = e ∨ b = it by simpa using hb) with rfl | rfl
    · exact ⟨_, he, fun v q => nomatch q⟩
    · exact ⟨o, ho, fun v q => by rw [hd] at q; cases q⟩
  keep := fun i h h' st k => by
    obtain ⟨⟨old, he⟩, hi, hne⟩ := st
    exact ⟨⟨old, k e (by simp) _ he⟩, hi.at fun o q => k it (by simp) o q, hne⟩
  item := by
    intro X hP hw hK hc i pins s σ H E I hf st hg
    subst hP hw hK
    obtain ⟨⟨old, he⟩, hit, hne⟩ := st
    obtain ⟨xs, x, hq, hx⟩ := hg
    obtain ⟨its, rv, tp, hz⟩ := I.tuple hq
    obtain ⟨u, hu, ru⟩ := rv.get hx
    have hel : e < s.heap.objs.size := Heap.lt_size he
    have hil : it < s.heap.objs.size := by obtain ⟨_, q, _⟩ := hit; exact Heap.lt_size q
    have hh : X.A.in1.handled = none := by simpa using I.ok.hd hc
    have hlt : i < its.toArray.size := by
      have := (List.getElem?_eq_some_iff.mp hu).1
      simpa using this
    have hef : e ∉ [it, a] := fun m => by
      rcases (show e = it ∨ e = a by simpa using m) with z | z
      · exact hne z
      · exact hae z
    refine wpAny_pyNext_enum_itemD (Draws.tuple (prog := X.prog) (w := X.w) hh it a hai its.toArray) he ⟨hit, tp⟩ hlt hne hef fun y h' tk hy ho hst hT hsz hk => ?_
    have ey : y = u := by
      have h1 : its.toArray[i]? = some u := by simpa using hu
      exact Option.some.inj (hy.symm.trans h1)
    subst ey
    refine ⟨_, rfl, wpAny_letOwnedTupleGo_enum (s := { s with heap := h', toks := tk + 1 }) ho fun h'' he' sb => ?_⟩
    have hT2 : h''.get? s.heap.objs.size = some { cls := .type "tuple", data := .seq #[.int i tk, y] } := (sb.2 _ (Nat.ne_of_gt hel)).trans hT
    have new : ObjOk X.prog X.w (upd H s.heap.objs.size (.tup [.int (i : Nat), x])) h'' s.heap.objs.size (.tup [.int (i : Nat), x]) := by
      refine ⟨by show 2 ≤ sizeLine; decide, [.int i tk, y], .cons ⟨_, rfl⟩ (.cons ru .nil), ⟨_, hT2, rfl, _, rfl⟩⟩
    have I1 : Inv X pins σ (upd H s.heap.objs.size (.tup [.int (i : Nat), x])) { s with heap := h'', toks := tk + 1 } := by
      refine I.turnedNew (ch := [e, it]) (fun b ob hb q => ?_) hf (Nat.le_refl _) new
      exact (sb.2 b fun z => hb (by simp [z])).trans (hk b ob (fun z => hb (by simp [z])) (fun z => hb (by simp [z])) q)
    refine ⟨.ref s.heap.objs.size, _, I1, rfl, ⟨_, x, rfl, I.hok.fresh (Nat.le_refl _), rfl, fun ys hy => by rw [I.tuple_inj hy hq]; exact hx⟩, ⟨⟨y, ?_⟩, hst.1.at fun o q => (sb.2 it (Ne.symm hne)).trans q, hne⟩, fun b hb => ?_⟩
    · rw [show ((i + 1 : Nat) : Int) = (i : Int) + 1 by omega]
      exact he'
    · have hb' : b < s.heap.objs.size := by
        rcases (show b = e ∨ b = it by simpa using hb) with z | z
        · rw [z]; exact hel
        · rw [z]; exact hil
      rw [upd_ne (Nat.ne_of_lt hb')]
      exact (hf b hb).1
  done := by
    intro X hP hw hK hc i pins s σ H E I hf st hg
    subst hP hw hK
    obtain ⟨⟨old, he⟩, hit, hne⟩ := st
    obtain ⟨xs, hq, hx⟩ := hg
    obtain ⟨its, rv, tp, hz⟩ := I.tuple hq
    obtain ⟨f0, f1, f2, f3, f4, f5⟩ := hf it (by simp)
    have hh : X.A.in1.handled = none := by simpa using I.ok.hd hc
    have hl := rv.length
    have ei : i = its.toArray.size := by simp; omega
    subst ei
    refine wpAny_pyNext_enum_endD (Draws.tuple (prog := X.prog) (w := X.w) hh it a hai its.toArray) he ⟨hit, tp⟩ fun h' eb => ?_
    exact ⟨rfl, I.turned (t' := s.toks) (fun b o hb q => eb b o hb q) f0 f1 f3 f4 f5⟩
  self := fun A i s Q E st h => by
    obtain ⟨⟨_, he⟩, _⟩ := st
    exact wpAny_pyIter_enum he h
def iEnumT (K : PySem.W.Frag) (ta : TA) : TI := fun σ H R => ta σ H fun vs H1 => ∃ a xs, vs = [.ref a] ∧ SqT K H1 a xs ∧ R (IteT K a) H1
theorem pi_enumT {X : Cx} {e : Expr} {ta : TA} {p pos tpos : Pos} {elts : List Expr} {kk : Nat} (hg : Gl X "enumerate") (hm : X.mg "enumerate" = none) (ha : PA X [e] ta) (hs : starEach [e] X.env = [(false, eval e X.env)] := by rfl) :
    PI X (.Tuple elts kk tpos) (.Call (.Name "enumerate" p) [e] [] pos) (iEnumT X.K ta) := by
  refine ⟨fun pins s σ H R I h => ?_⟩
  refine Call_ (ld_blt I hg hm boot_enumerate (PyProof.Rows.callWith_type1 (thn (ha.run pos pins s σ H _ I h) fun us s1 z => ?_) hs rfl))
  obtain ⟨vs, H1, I1, r1, a, xs, rfl, hq, q⟩ := z
  obtain ⟨u, rfl, ru⟩ := vals1 r1
  cases ru
  obtain ⟨its, rv, tp, hz⟩ := I1.tuple hq
  have ha1 : a < s1.heap.objs.size := by obtain ⟨o, h1, _⟩ := tp; exact Heap.lt_size h1
  refine call_enum1 (begins_tuple a its.toArray) tp fun h' he hit hk => wpAny_pyIter_enum he ?_
  have I2 : Inv X pins σ H1 { s1 with heap := h' } := I1.kept (t' := s1.toks) hk
  refine ⟨s1.heap.objs.size + 1, [s1.heap.objs.size + 1, s1.heap.objs.size], _, _, H1, rfl, I2, turn_enumT a (s1.heap.objs.size + 1) s1.heap.objs.size (Nat.ne_of_lt ha1) (Nat.ne_of_gt (Nat.lt_succ_of_lt ha1)), ⟨⟨.none, he⟩, ⟨_, hit, rfl, rfl⟩, Nat.succ_ne_self _⟩, fun b hb => ?_, q⟩
  have hle : s1.heap.objs.size ≤ b := by
    rcases (show b = s1.heap.objs.size + 1 ∨ b = s1.heap.objs.size by simpa using hb) with z | z
    · rw [z]; exact Nat.le_add_right _ _
    · rw [z]; exact Nat.le_refl _
  exact I1.fpOk hle (I1.hok.fresh hle)
/-- enumerate of a list or of a tuple -/
theorem pi_enumU {X : Cx} {e : Expr} {ta : TA} {p pos tpos : Pos} {elts : List Expr} {kk : Nat} (hg : Gl X "enumerate") (hm : X.mg "enumerate" = none) (ha : PA X [e] ta) (hs : starEach [e] X.env = [(false, eval e X.env)] := by rfl) :
    PI X (.Tuple elts kk tpos) (.Call (.Name "enumerate" p) [e] [] pos) (fun σ H R => iEnum X.K ta σ H R ∨ iEnumT X.K ta σ H R) := pi_or (pi_enum hg hm ha hs) (pi_enumT hg hm ha hs)
section
variable {K : PySem.W.Frag} {ts : TA} {ρ : Env} {Q : List D → Env → Prop}
def enumD (ds : List D) : List D := (List.range ds.length).zipWith (fun i d => D.tup [.int (i : Nat), d]) ds
theorem enumD_len (ds : List D) : (enumD ds).length = ds.length := by simp [enumD]
theorem enumD_at {ds : List D} {i : Nat} {d : D} (h : ds[i]? = some d) : (enumD ds)[i]? = some (.tup [.int (i : Nat), d]) := by
  have hl := (List.getElem?_eq_some_iff.mp h).1
  unfold enumD
  rw [List.getElem?_zipWith, h]
  simp [List.getElem?_range hl]
theorem pair_new {F G H : Hp} {σ : L2.St} {ρ : Env} (R : RE K F G H σ ρ) {T : Addr} (hT : H T = none) {x y : V} {d e : D} (hx : Rep K G x d) (hy : Rep K G y e) :
    ∃ G3, Ex G G3 ∧ RE K F G3 (upd H T (.tup [x, y])) σ ρ ∧ Rep K G3 (.ref T) (.tup [d, e]) := by
  have e3 : Ex G (upd G T (.tup [x, y])) := Ex.new (R.wd.g.none hT)
  exact ⟨_, e3, R.new hT, .tup upd_same (.cons (hx.mono e3) (.cons (hy.mono e3) .nil))⟩
theorem yl_enumL {G : Hp} {a : Addr} {vs : List V} {ds : List D} (h1 : G a = some (.lst vs)) (h2 : Reps K G vs ds) : Yields K G (Ite K a) (enumD ds) where
  go := fun F G2 H2 σ ρ i e R hi => ⟨vs, vs[i]'(by rw [h2.length]; simpa [enumD_len] using hi), .inl (.inl (R.wd.g _ _ (e _ _ h1))), by rw [List.getElem?_eq_getElem]⟩
  stop := fun F G2 H2 σ ρ e R => ⟨vs, .inl (.inl (R.wd.g _ _ (e _ _ h1))), by rw [h2.length, enumD_len]; exact Nat.le_refl _⟩
  yld := fun F G2 H2 σ ρ i x H3 e R hi y => by
    obtain ⟨T, z, rfl, hT, rfl, y⟩ := y
    obtain ⟨d, hd, hx⟩ := h2.getV (y vs (.inl (.inl (R.wd.g _ _ (e _ _ h1)))))
    obtain ⟨G3, e3, R3, h3⟩ := pair_new R hT (.int ((i : Nat) : Int)) (hx.mono e)
    exact ⟨G3, _, e3, R3, enumD_at hd, h3⟩
theorem yl_enumT {G : Hp} {a : Addr} {vs : List V} {ds : List D} (h1 : G a = some (.tup vs)) (h2 : Reps K G vs ds) : Yields K G (IteT K a) (enumD ds) where
  go := fun F G2 H2 σ ρ i e R hi => ⟨vs, vs[i]'(by rw [h2.length]; simpa [enumD_len] using hi), R.wd.g.sqT (e _ _ h1), by rw [List.getElem?_eq_getElem]⟩
  stop := fun F G2 H2 σ ρ e R => ⟨vs, R.wd.g.sqT (e _ _ h1), by rw [h2.length, enumD_len]⟩
  yld := fun F G2 H2 σ ρ i x H3 e R hi y => by
    obtain ⟨T, z, rfl, hT, rfl, y⟩ := y
    obtain ⟨d, hd, hx⟩ := h2.getV (y vs (R.wd.g.sqT (e _ _ h1)))
    obtain ⟨G3, e3, R3, h3⟩ := pair_new R hT (.int ((i : Nat) : Int)) (hx.mono e)
    exact ⟨G3, _, e3, R3, enumD_at hd, h3⟩
theorem ei_enumL (h : EvA K ts ρ fun xs ρ1 => ∃ ds, xs = [.lst ds] ∧ Q (enumD ds) ρ1) : EvI K (fun σ H R => iEnum K ts σ H R ∨ iEnumT K ts σ H R) ρ Q := fun F G H σ R R' k =>
  .inl (h F G H σ R _ fun vs xs ρ1 G1 H1 e1 R1 hv q => by
    obtain ⟨ds, rfl, q⟩ := q
    obtain ⟨v, rfl, hv1⟩ := hv.one
    obtain ⟨a, ws, rfl, h1, h2⟩ := rep_lst hv1
    exact ⟨a, ws, rfl, .inl (.inl (R1.wd.g _ _ h1)), k _ _ ρ1 G1 H1 e1 R1 (yl_enumL h1 h2) q⟩)
theorem ei_enumT (h : EvA K ts ρ fun xs ρ1 => ∃ ds, xs = [.tup ds] ∧ Q (enumD ds) ρ1) : EvI K (fun σ H R => iEnum K ts σ H R ∨ iEnumT K ts σ H R) ρ Q := fun F G H σ R R' k =>
  .inr (h F G H σ R _ fun vs xs ρ1 G1 H1 e1 R1 hv q => by
    obtain ⟨ds, rfl, q⟩ := q
    obtain ⟨v, rfl, hv1⟩ := hv.one
    obtain ⟨a, ws, rfl, h1, h2⟩ := rep_tup hv1
    exact ⟨a, ws, rfl, R1.wd.g.sqT h1, k _ _ ρ1 G1 H1 e1 R1 (yl_enumT h1 h2) q⟩)
end
end DL

set_option Elab.async false
set_option linter.all false
set_option maxRecDepth 100000
namespace DL
open PySem PySem.Spec PyProof.Rows L2
section
variable {K : PySem.W.Frag} {te ta tb tc td ty : TE} {tt tu : TT} {ts : TA} {ρ : Env} {Q : D → Env → Prop}
/-! ### dicts: what is there -/
def kD : Key → D
  | .inl i => .int i
  | .inr x => .str x
theorem rep_kD {H : Hp} {v : V} {k : Key} (h : Rep K H v (kD k)) : v = kV k := by
  cases k with
  | inl i => exact rep_int h
  | inr x => exact rep_str h
def dget {κ : Type} [DecidableEq κ] (ps : List (κ × D)) (k : κ) : Option D := (ps.find? fun kv => decide (kv.1 = k)).map (·.2)
theorem dk_look {κ : Type} [DecidableEq κ] {H : Hp} (k : κ) : ∀ {kvs : List (κ × V)} {ps : List (κ × D)}, kvs.map (·.1) = ps.map (·.1) → Reps K H (kvs.map (·.2)) (ps.map (·.2)) →
    (valV kvs k = none ∧ dget ps k = none) ∨ ∃ v d, valV kvs k = some v ∧ dget ps k = some d ∧ Rep K H v d
  | [], [], _, _ => .inl ⟨rfl, rfl⟩
  | [], _ :: _, e, _ => by simp at e
  | _ :: _, [], e, _ => by simp at e
  | kv :: kvs, p :: ps, e, r => by
    simp only [List.map_cons, List.cons.injEq] at e
    cases r with
    | cons r1 r2 =>
      by_cases hk : kv.1 = k
      · refine .inr ⟨kv.2, p.2, valV_pos hk, ?_, r1⟩
        have hp : p.1 = k := e.1 ▸ hk
        simp [dget, List.find?_cons, hp]
      · have hp : ¬ p.1 = k := fun z => hk (e.1.trans z)
        have e1 : valV (kv :: kvs) k = valV kvs k := by simp [valV, List.find?_cons, hk]
        have e2 : dget (p :: ps) k = dget ps k := by simp [dget, List.find?_cons, hp]
        rw [e1, e2]
        exact dk_look k e.2 r2
/-- k in d -/
theorem ew_din (h : EvW K ty ρ fun y ρ1 => EvW K td ρ1 fun x ρ2 => ∃ k ps, y = kD k ∧ x = .dk ps ∧ Q (.bl (dget ps k).isSome) ρ2) : EvW K (tDIn ty td) ρ Q := fun F G H σ R Q' k =>
  h F G H σ R _ fun v y ρ1 G1 H1 e1 R1 hv q1 => q1 F G1 H1 σ R1 _ fun w x ρ2 G2 H2 e2 R2 hw q2 => by
    obtain ⟨kk, ps, rfl, rfl, q⟩ := q2
    obtain ⟨a, kvs, rfl, h1, h2, h3⟩ := rep_dk hw
    have hr : Rd H2 a (.dK kvs) := R2.wd.g.rdx.1 _ _ trivial h1
    refine ⟨a, valV kvs kk, rfl, .inl ⟨kvs, kk, hr, rep_kD hv, rfl⟩, ?_⟩
    have e : (valV kvs kk).isSome = (dget ps kk).isSome := by
      rcases dk_look kk h2 h3 with ⟨z1, z2⟩ | ⟨_, _, z1, z2, _⟩ <;> rw [z1, z2] <;> rfl
    rw [e]
    exact k _ _ ρ2 G2 H2 (e1.trans e2) R2 (.bl _) q
theorem ew_dnotin (h : EvW K ty ρ fun y ρ1 => EvW K td ρ1 fun x ρ2 => ∃ k ps, y = kD k ∧ x = .dk ps ∧ Q (.bl (!(dget ps k).isSome)) ρ2) : EvW K (tDNotIn ty td) ρ Q := fun F G H σ R Q' k =>
  h F G H σ R _ fun v y ρ1 G1 H1 e1 R1 hv q1 => q1 F G1 H1 σ R1 _ fun w x ρ2 G2 H2 e2 R2 hw q2 => by
    obtain ⟨kk, ps, rfl, rfl, q⟩ := q2
    obtain ⟨a, kvs, rfl, h1, h2, h3⟩ := rep_dk hw
    have hr : Rd H2 a (.dK kvs) := R2.wd.g.rdx.1 _ _ trivial h1
    refine ⟨a, valV kvs kk, rfl, .inl ⟨kvs, kk, hr, rep_kD hv, rfl⟩, ?_⟩
    have e : (valV kvs kk).isSome = (dget ps kk).isSome := by
      rcases dk_look kk h2 h3 with ⟨z1, z2⟩ | ⟨_, _, z1, z2, _⟩ <;> rw [z1, z2] <;> rfl
    rw [e]
    exact k _ _ ρ2 G2 H2 (e1.trans e2) R2 (.bl _) q
/-- d[k] -/
theorem ew_dgetk (h : EvW K td ρ fun x ρ1 => EvW K ty ρ1 fun y ρ2 => ∃ k ps d, y = kD k ∧ x = .dk ps ∧ dget ps k = some d ∧ Q d ρ2) : EvW K (tDGet td ty) ρ Q := fun F G H σ R Q' k =>
  h F G H σ R _ fun v x ρ1 G1 H1 e1 R1 hv q1 => q1 F G1 H1 σ R1 _ fun w y ρ2 G2 H2 e2 R2 hw q2 => by
    obtain ⟨kk, ps, d, rfl, rfl, hd, q⟩ := q2
    obtain ⟨a, kvs, rfl, h1, h2, h3⟩ := rep_dk (hv.mono e2)
    have hr : Rd H2 a (.dK kvs) := R2.wd.g.rdx.1 _ _ trivial h1
    rcases dk_look kk h2 h3 with ⟨_, z2⟩ | ⟨v1, d1, z1, z2, z3⟩
    · rw [hd] at z2; cases z2
    · rw [hd] at z2; cases z2
      exact ⟨a, v1, rfl, .inl ⟨kvs, kk, hr, rep_kD hw, z1.symm⟩, k _ _ ρ2 G2 H2 (e1.trans e2) R2 z3 q⟩
/-! ### fields -/
theorem fs_look {H : Hp} (f : Str) : ∀ {fs : List (Str × V)} {ps : List (Str × D)}, fs.map (·.1) = ps.map (·.1) → Reps K H (fs.map (·.2)) (ps.map (·.2)) → ∀ {d : D}, ps.lookup f = some d → ∃ v, fs.lookup f = some v ∧ Rep K H v d
  | [], [], _, _, d, e => by simp at e
  | [], _ :: _, e, _, _, _ => by simp at e
  | _ :: _, [], e, _, _, _ => by simp at e
  | (g, v) :: fs, (g', x) :: ps, e, r, d, h => by
    simp only [List.map_cons, List.cons.injEq] at e
    obtain ⟨e0, e1⟩ := e
    subst e0
    cases r with
    | cons r1 r2 =>
      by_cases z : f == g
      · rw [List.lookup_cons, z] at h ⊢
        exact ⟨v, rfl, by cases h; exact r1⟩
      · have z' : (f == g) = false := by simpa using z
        rw [List.lookup_cons, z'] at h ⊢
        exact fs_look f e1 r2 h
theorem ew_fld {f : Str} (h : EvW K ta ρ fun x ρ1 => ∃ C ps d, x = .ins C ps ∧ Cls K (He.ga K C) ∧ NoAttr K (He.ga K C) f ∧ ps.lookup f = some d ∧ Q d ρ1) : EvW K (tFld K ta f) ρ Q := fun F G H σ R Q' k =>
  h F G H σ R _ fun v x ρ1 G1 H1 e1 R1 hv q => by
    obtain ⟨C, ps, d, rfl, c, n, hl, q⟩ := q
    obtain ⟨a, dx, fs, rfl, h1, h2, h3⟩ := rep_ins hv
    obtain ⟨v, hv1, hv2⟩ := fs_look f h2 h3 hl
    exact ⟨a, _, dx, fs, v, rfl, R1.wd.g _ _ h1, c, n, hv1, k _ _ ρ1 G1 H1 e1 R1 hv2 q⟩
/-! ### items -/
theorem atI_rep {H : Hp} {vs : List V} {ds : List D} {i : Int} {d : D} (r : Reps K H vs ds) (h : atI ds i = some d) : ∃ v, atI vs i = some v ∧ Rep K H v d := by
  unfold atI at h ⊢
  rw [r.length]
  cases e : ixN ds.length i with
  | none => rw [e] at h; cases h
  | some j =>
    rw [e] at h
    obtain ⟨v, h1, h2⟩ := r.get (show ds[j]? = some d from h)
    exact ⟨v, h1, h2⟩
theorem op2_ixL {ds : List D} {i : Int} {d : D} (h : atI ds i = some d) (q : Q d ρ) : Op2 K (rIx K) (.lst ds) (.int i) ρ Q := fun F G H σ R v w hv hw Q' k => by
  obtain ⟨a, vs, rfl, h1, h2⟩ := rep_lst hv
  obtain ⟨x, h3, h4⟩ := atI_rep h2 h
  exact .inl ⟨a, vs, i, x, rfl, rep_int hw, .inl (.inl (R.wd.g _ _ h1)), h3, k _ _ ρ G H (Ex.refl G) R h4 q⟩
theorem op2_ixT {ds : List D} {i : Int} {d : D} (h : atI ds i = some d) (q : Q d ρ) : Op2 K (rIx K) (.tup ds) (.int i) ρ Q := fun F G H σ R v w hv hw Q' k => by
  obtain ⟨a, vs, rfl, h1, h2⟩ := rep_tup hv
  obtain ⟨x, h3, h4⟩ := atI_rep h2 h
  exact .inr (.inl ⟨a, vs, i, x, rfl, rep_int hw, R.wd.g.sqT h1, h3, k _ _ ρ G H (Ex.refl G) R h4 q⟩)
/-- of a list or a tuple -/
def D.seq : D → Option (List D)
  | .lst xs => some xs
  | .tup xs => some xs
  | _ => none
theorem op2_ix {x : D} {ds : List D} {i : Int} {d : D} (hx : x.seq = some ds) (h : atI ds i = some d) (q : Q d ρ) : Op2 K (rIx K) x (.int i) ρ Q := by
  cases x with
  | lst xs => cases hx; exact op2_ixL h q
  | tup xs => cases hx; exact op2_ixT h q
  | _ => cases hx
theorem opa_len {x : D} {ds : List D} (hx : x.seq = some ds) (q : Q (.int ds.length) ρ) : OpA K (rLenU K) [x] ρ Q := by
  cases x with
  | lst xs => cases hx; exact opa_len_lst q
  | tup xs => cases hx; exact opa_len_tup q
  | _ => cases hx
/-! ### slices -/
def cutDD (xs : List D) (lo hi : Option Int) : List D := (xs.drop (HT.sIx xs.length 0 lo)).take (HT.sIx xs.length xs.length hi - HT.sIx xs.length 0 lo)
theorem cut_reps {H : Hp} {vs : List V} {ds : List D} (r : Reps K H vs ds) (lo hi : Option Int) : Reps K H (cutV vs lo hi) (cutDD ds lo hi) := by
  unfold cutV cutDD
  rw [r.length]
  exact (r.drop _).take _
theorem eo_none {Q : Option Int → Env → Prop} (q : Q none ρ) : EvO K tNoPart ρ Q := fun F G H σ R Q' k => k none ρ G H (Ex.refl G) R q
theorem eo_some {Q : Option Int → Env → Prop} (h : EvW K te ρ fun d ρ1 => ∃ i, d = .int i ∧ Q (some i) ρ1) : EvO K (tPart te) ρ Q := fun F G H σ R Q' k =>
  h F G H σ R _ fun v d ρ1 G1 H1 e1 R1 hv q => by
    obtain ⟨i, rfl, q⟩ := q
    exact ⟨i, rep_int hv, k _ ρ1 G1 H1 e1 R1 q⟩
def rSlU (K : PySem.W.Frag) : V → Option Int → Option Int → Hp → VK → Prop := fun x lo hi H Q => rSlL K x lo hi H Q ∨ rSlA K x lo hi H Q
theorem sl_U {X : Cx} : SlR X (rSlU X.K) := SlR.or sl_list sl_tupA
/-- a slice of a list -/
theorem en_slL {tl th : TO} (h : EvW K te ρ fun x ρ1 => EvO K tl ρ1 fun lo ρ2 => EvO K th ρ2 fun hi ρ3 => ∃ ds, x = .lst ds ∧ Q (.lst (cutDD ds lo hi)) ρ3) : EvN K (tSl (rSlU K) te tl th) ρ Q := fun F G H σ R Q' k =>
  h F G H σ R _ fun v x ρ1 G1 H1 e1 R1 hv q1 => q1 F G1 H1 σ R1 _ fun lo ρ2 G2 H2 e2 R2 q2 => q2 F G2 H2 σ R2 _ fun hi ρ3 G3 H3 e3 R3 q3 => by
    obtain ⟨ds, rfl, q⟩ := q3
    obtain ⟨a, vs, rfl, h1, h2⟩ := rep_lst (hv.mono (e2.trans e3))
    refine .inl ⟨a, vs, rfl, .inl (.inl (R3.wd.g _ _ h1)), fun p hp => ?_⟩
    exact k p (.lst (cutDD ds lo hi)) ρ3 G3 _ ((e1.trans e2).trans e3) (R3.alone hp) (R3.wd.g.none hp) (R3.wd.f.none hp) (ownA_fresh R3 hp) ⟨_, upd_same, cut_reps h2 lo hi⟩ q
/-- a slice of a tuple -/
theorem ew_slT {tl th : TO} (h : EvW K te ρ fun x ρ1 => EvO K tl ρ1 fun lo ρ2 => EvO K th ρ2 fun hi ρ3 => ∃ ds, x = .tup ds ∧ Q (.tup (cutDD ds lo hi)) ρ3) : EvW K (tSl (rSlU K) te tl th) ρ Q := fun F G H σ R Q' k =>
  h F G H σ R _ fun v x ρ1 G1 H1 e1 R1 hv q1 => q1 F G1 H1 σ R1 _ fun lo ρ2 G2 H2 e2 R2 q2 => q2 F G2 H2 σ R2 _ fun hi ρ3 G3 H3 e3 R3 q3 => by
    obtain ⟨ds, rfl, q⟩ := q3
    obtain ⟨a, vs, rfl, h1, h2⟩ := rep_tup (hv.mono (e2.trans e3))
    refine .inr ⟨a, vs, rfl, R3.wd.g.sqT h1, fun hw => ?_, fun _ p hp => ?_⟩
    · have e : cutDD ds lo hi = ds := by
        unfold cutDD
        rw [h2.length] at hw
        rw [hw.1, hw.2]
        simp
      rw [e] at q
      exact k _ _ ρ3 G3 H3 ((e1.trans e2).trans e3) R3 (.tup h1 h2) q
    · have en : Ex G3 (upd G3 p (.tup (cutV vs lo hi))) := Ex.new (R3.wd.g.none hp)
      exact k _ _ ρ3 _ _ (((e1.trans e2).trans e3).trans en) (R3.new hp) (.tup upd_same ((cut_reps h2 lo hi).mono en)) q
/-! ### in a list or tuple of texts -/
def strsD (xs : List Str) : List D := xs.map D.str
theorem reps_strs {H : Hp} : ∀ {vs : List V} {xs : List Str}, Reps K H vs (strsD xs) → vs = xs.map V.str
  | _, [], h => h.nil_inv
  | _, x :: xs, h => by
    obtain ⟨v, ws, rfl, h1, h2⟩ := h.cons_inv
    rw [rep_str h1, reps_strs h2]; rfl
theorem inV_strs (x : Str) : ∀ xs : List Str, inV (.str x) (xs.map V.str) = decide (x ∈ xs)
  | [] => by simp [inV]
  | y :: ys => by
    have ih := inV_strs x ys
    unfold inV at ih ⊢
    rw [List.map_cons, List.any_cons, ih]
    have e : eqV (.str y) (.str x) = decide (y = x) := by
      unfold eqV
      by_cases z : y = x
      · subst z; simp
      · simp [z]
    rw [e]
    by_cases z : y = x
    · subst z; simp
    · have z' : ¬ x = y := fun q => z q.symm
      simp [z, z']
theorem flat_strs : ∀ xs : List Str, (xs.map V.str).all flatV = true
  | [] => rfl
  | x :: xs => by rw [List.map_cons, List.all_cons, flat_strs xs]; rfl
theorem op2_in {neg : Bool} {x : Str} {y : D} {ys : List Str} (hy : y.seq = some (strsD ys)) (q : Q (.bl (if neg then !decide (x ∈ ys) else decide (x ∈ ys))) ρ) : Op2 K (rIn K neg) (.str x) y ρ Q := fun F G H σ R v w hv hw Q' k => by
  rw [rep_str hv]
  have fin : Q' (.bl (if neg then !inV (.str x) (ys.map V.str) else inV (.str x) (ys.map V.str))) H := by
    rw [inV_strs]; exact k _ _ ρ G H (Ex.refl G) R (.bl _) q
  cases y with
  | lst xs =>
    cases hy
    obtain ⟨a, vs, rfl, h1, h2⟩ := rep_lst hw
    rw [reps_strs h2] at h1
    exact ⟨a, _, rfl, .inl (.inl (.inl (R.wd.g _ _ h1))), rfl, flat_strs ys, fin⟩
  | tup xs =>
    cases hy
    obtain ⟨a, vs, rfl, h1, h2⟩ := rep_tup hw
    rw [reps_strs h2] at h1
    exact ⟨a, _, rfl, .inr (R.wd.g.sqT h1), rfl, flat_strs ys, fin⟩
  | _ => cases hy
theorem op2_sign {c : Nat} {z : Str} (q : Q (.bl (decide (c ∈ z.cps.toList))) ρ) : Op2 K (fun x y H Q => ∃ (c : Nat) (z : Str), x = .str ⟨#[c]⟩ ∧ y = .str z ∧ Q (.bl (decide (c ∈ z.cps.toList))) H) (.str ⟨#[c]⟩) (.str z) ρ Q := fun F G H σ R v w hv hw Q' k => by
  rw [rep_str hv, rep_str hw]
  exact ⟨c, z, rfl, rfl, k _ _ ρ G H (Ex.refl G) R (.bl _) q⟩
/-! ### targets: a list unpacked -/
theorem pg_or {X : Cx} {tg : Expr} {g g' : TG} (h : PG X tg g) (h' : PG X tg g') : PG X tg (fun v σ H Q => g v σ H Q ∨ g' v σ H Q) :=
  ⟨fun pins s σ H v u Q I r q => q.elim (fun q => h.run pins s σ H v u Q I r q) fun q => h'.run pins s σ H v u Q I r q⟩
theorem gw_inl {g g' : TG} {d : D} {Q : Env → Prop} (h : GW K g d ρ Q) : GW K (fun v σ H Q => g v σ H Q ∨ g' v σ H Q) d ρ Q := fun F G H σ v R hv Q' k => .inl (h F G H σ v R hv Q' k)
theorem gw_inr {g g' : TG} {d : D} {Q : Env → Prop} (h : GW K g' d ρ Q) : GW K (fun v σ H Q => g v σ H Q ∨ g' v σ H Q) d ρ Q := fun F G H σ v R hv Q' k => .inr (h F G H σ v R hv Q' k)
theorem gw_unl {n : Nat} {gs : TGs} {ds : List D} {Q : Env → Prop} (hn : ds.length = n) (h : GWs K gs ds ρ Q) : GW K (gUnl K n gs) (.lst ds) ρ Q := fun F G H σ v R hv Q' k => by
  obtain ⟨a, vs, rfl, h1, h2⟩ := rep_lst hv
  exact ⟨a, vs, rfl, .inl (.inl (R.wd.g _ _ h1)), by rw [h2.length]; exact hn, h F G H σ vs R h2 Q' k⟩
/-- a list or a tuple unpacked -/
theorem gw_seq {n : Nat} {gs gs' : TGs} {x : D} {ds : List D} {Q : Env → Prop} (hx : x.seq = some ds) (hn : ds.length = n) (h : GWs K gs ds ρ Q) (h' : GWs K gs' ds ρ Q) : GW K (fun v σ H Q => gTup K n gs v σ H Q ∨ gUnl K n gs' v σ H Q) x ρ Q := by
  cases x with
  | lst xs => cases hx; exact gw_inr (gw_unl hn h')
  | tup xs => cases hx; exact gw_inl (gw_tup hn h)
  | _ => cases hx
/-- the walk of a list or a tuple -/
theorem ei_seq {Q : List D → Env → Prop} (x : D) {ds : List D} (hx : x.seq = some ds) (h : EvW K te ρ fun d ρ1 => d = x ∧ Q ds ρ1) : EvI K (fun σ H R => iList K te σ H R ∨ iTup K te σ H R) ρ Q := by
  cases x with
  | lst xs => cases hx; exact ei_inl (ei_list (ew_weak h fun d ρ1 z => ⟨ds, z.1, z.2⟩))
  | tup xs => cases hx; exact ei_inr (ei_tup (ew_weak h fun d ρ1 z => ⟨ds, z.1, z.2⟩))
  | _ => cases hx
theorem ei_enum {Q : List D → Env → Prop} (x : D) {ds : List D} (hx : x.seq = some ds) (h : EvA K ts ρ fun xs ρ1 => xs = [x] ∧ Q (enumD ds) ρ1) : EvI K (fun σ H R => iEnum K ts σ H R ∨ iEnumT K ts σ H R) ρ Q := by
  cases x with
  | lst xs => cases hx; exact ei_enumL fun F G H σ R Q' k => h F G H σ R Q' fun vs ys ρ' G' H' e R1 hv q => k vs ys ρ' G' H' e R1 hv ⟨ds, q.1, q.2⟩
  | tup xs => cases hx; exact ei_enumT fun F G H σ R Q' k => h F G H σ R Q' fun vs ys ρ' G' H' e R1 hv q => k vs ys ρ' G' H' e R1 hv ⟨ds, q.1, q.2⟩
  | _ => cases hx
/-- a slice of a list or of a tuple, to be read at once -/
theorem ew_slU {tl th : TO} (x : D) {ds : List D} (hx : x.seq = some ds) (h : EvW K te ρ fun d ρ1 => d = x ∧ EvO K tl ρ1 fun lo ρ2 => EvO K th ρ2 fun hi ρ3 => ∀ y : D, y.seq = some (cutDD ds lo hi) → Q y ρ3) : EvW K (tSl (rSlU K) te tl th) ρ Q := by
  cases x with
  | lst xs =>
    cases hx
    refine ew_new (en_slL (ew_weak h fun d ρ1 z => ?_))
    refine fun F G H σ R Q' k => z.2 F G H σ R Q' fun lo ρ2 G2 H2 e2 R2 q2 => k lo ρ2 G2 H2 e2 R2 fun F G H σ R Q' k => q2 F G H σ R Q' fun hi ρ3 G3 H3 e3 R3 q3 => k hi ρ3 G3 H3 e3 R3 ⟨ds, z.1, q3 _ rfl⟩
  | tup xs =>
    cases hx
    refine ew_slT (ew_weak h fun d ρ1 z => ?_)
    refine fun F G H σ R Q' k => z.2 F G H σ R Q' fun lo ρ2 G2 H2 e2 R2 q2 => k lo ρ2 G2 H2 e2 R2 fun F G H σ R Q' k => q2 F G H σ R Q' fun hi ρ3 G3 H3 e3 R3 q3 => k hi ρ3 G3 H3 e3 R3 ⟨ds, z.1, q3 _ rfl⟩
  | _ => cases hx
/-- a, b = x, y -/
theorem ws_par {i j : Nat} {E : EndD} (h : EvA K ts ρ fun ds ρ1 => ∃ d e, ds = [d, e] ∧ E.nx ((ρ1.set i (.sh d)).set j (.sh e))) : WS K (tPar i j ts) ρ E := fun F G H σ Dn R L =>
  h F G H σ R _ fun vs ds ρ1 G1 H1 e1 R1 hv q => by
    obtain ⟨d, e, rfl, q⟩ := q
    obtain ⟨v, w, rfl, h1, h2⟩ := hv.two
    exact ⟨v, w, rfl, L.nx _ _ G1 H1 e1 ((R1.setSh h1 i).setSh h2 j) q⟩
/-- a comprehension of tests over some data, all of it -/
theorem en_lcB {wi : TI} {g : TG} {vs : List Nat} {f : D → Bool} (h : EvI K wi ρ fun ds ρ1 => ownFree ρ1 vs = true ∧ ds.length ≤ 90000 ∧
      (∀ (i : Nat) d, ds[i]? = some d → GV K g vs d (wipeE ρ1 vs) fun ρ2 => EvW K te ρ2 fun y ρ4 => ρ4 = ρ2 ∧ y = .bl (f d)) ∧
      Q (.lst ((ds.map f).map D.bl)) ρ1) : EvN K (tLc wi g tYes te vs) ρ Q := by
  refine en_lc fun F G H σ R R' k => h F G H σ R R' fun J ds ρ' G' H' e R1 Y q => k J ds ρ' G' H' e R1 Y ?_
  obtain ⟨h1, h2, h3, h4⟩ := q
  refine ⟨h1, h2, fun i acc => acc = ((ds.map f).map D.bl).take i, rfl, fun i d acc hd hp => ?_, fun acc hp => ?_⟩
  · subst hp
    refine fun F G H σ v R hv Q' k => h3 i d hd F G H σ v R hv Q' fun σ' ρ2 l s R2 q2 => k σ' ρ2 l s R2 (et_yes ⟨rfl, ?_⟩)
    show EvW K te ρ2 _
    refine ew_weak q2 fun y ρ4 z => ⟨z.1, ?_⟩
    show _ ++ [y] = List.take (i + 1) _
    rw [z.2, List.take_add_one]
    simp [hd]
  · subst hp
    have e : ((ds.map f).map D.bl).take ds.length = (ds.map f).map D.bl := List.take_of_length_le (by simp)
    rw [e]; exact h4
end
end DL

set_option Elab.async false
set_option linter.all false
set_option maxRecDepth 100000
namespace DL
open PySem PySem.Spec PyProof.Rows L2
/-! ### rules with the written part told by its own letter (within comprehensions) -/
section
variable {X : Cx} {K : PySem.W.Frag}
theorem kin (h : X.K = K) : OpR X (compareOp .In) (rIn K false) := h ▸ op_in_seq
theorem knotin (h : X.K = K) : OpR X (compareOp .NotIn) (rIn K true) := h ▸ op_notIn_seq
theorem kix (h : X.K = K) : IxR X (rIx K) := h ▸ ix_seq
theorem ksl (h : X.K = K) : SlR X (rSlU K) := h ▸ sl_U
theorem klen (h : X.K = K) : CallR X (.builtin "len") (rLenU K) := h ▸ call_lenU
theorem kisi (h : X.K = K) : CallR X (.builtin "isinstance") (rIsi K) := h ▸ call_isi
theorem kisiT (h : X.K = K) : CallR X (.builtin "isinstance") (rIsiT K) := h ▸ call_isiT
theorem kall (hc : X.calm = true) (h : X.K = K) : CallR X (.builtin "all") (rAll K) := h ▸ cr_all hc
theorem kany (hc : X.calm = true) (h : X.K = K) : CallR X (.builtin "any") (rAny K) := h ▸ cr_any hc
theorem keqD (h : X.K = K) (hu : X.A.units + 64 < cLine) : OpR X (compareOp .Eq) (rEqD K) := h ▸ op_eqD hu
theorem kneD (h : X.K = K) (hu : X.A.units + 64 < cLine) : OpR X (compareOp .NotEq) (rNeD K) := h ▸ op_neD hu
theorem kcatA (h : X.K = K) : OpR X (binaryOp .Add) (rCatA K) := h ▸ op_catA
def rTupOf (K : PySem.W.Frag) : List V → Hp → VK → Prop := fun xs H Q => ∃ p ys, xs = [.ref p] ∧ ((SqL K H p ys ∧ ∀ l, H l = none → Q (.ref l) (upd H l (.tup ys))) ∨ (SqT K H p ys ∧ Q (.ref p) H))
def rLstOf (K : PySem.W.Frag) : List V → Hp → VK → Prop := fun xs H Q => ∃ p ys, xs = [.ref p] ∧ (SqL K H p ys ∨ SqT K H p ys) ∧ ∀ l, H l = none → Q (.ref l) (upd H l (.lst ys))
theorem ktuple (h : X.K = K) : CallR X (.type "tuple") (rTupOf K) := h ▸ call_tuple_of
theorem klist (h : X.K = K) : CallR X (.type "list") (rLstOf K) := h ▸ call_list_of
theorem kfld {e : Expr} {ta : TE} {f : Str} {pos : Pos} (h : X.K = K) (he : PE X e ta) (hb : attributeBase e f X.env (eval e X.env) = eval e X.env) : PE X (.Attribute e f pos) (tFld K ta f) := h ▸ pe_fld he hb
theorem kwl {tg e : Expr} {te : TE} (h : X.K = K) (he : PE X e te) : PI X tg e (iList K te) := h ▸ pi_list he
theorem kwt {tg e : Expr} {te : TE} (h : X.K = K) (he : PE X e te) : PI X tg e (iTup K te) := h ▸ pi_tup he
theorem kwU {tg e : Expr} {te : TE} (h : X.K = K) (he : PE X e te) : PI X tg e (fun σ H R => iList K te σ H R ∨ iTup K te σ H R) := pi_or (kwl h he) (kwt h he)
theorem kenum {e : Expr} {ta : TA} {p pos tpos : Pos} {elts : List Expr} {kk : Nat} (h : X.K = K) (hg : Gl X "enumerate") (hm : X.mg "enumerate" = none) (ha : PA X [e] ta) (hs : starEach [e] X.env = [(false, eval e X.env)] := by rfl) :
    PI X (.Tuple elts kk tpos) (.Call (.Name "enumerate" p) [e] [] pos) (fun σ H R => iEnum K ta σ H R ∨ iEnumT K ta σ H R) := h ▸ pi_enumU hg hm ha hs
theorem kzip {e e2 : Expr} {ta : TA} {p pos tpos : Pos} {elts : List Expr} {kk : Nat} (h : X.K = K) (hg : Gl X "zip") (hm : X.mg "zip" = none) (ha : PA X [e, e2] ta)
    (hs : starEach [e, e2] X.env = (false, eval e X.env) :: starEach [e2] X.env := by rfl) (hpl : (backTo pos (starEach [e2] X.env)).any (·.1) = false := by rfl) :
    PI X (.Tuple elts kk tpos) (.Call (.Name "zip" p) [e, e2] [] pos) (iZip K ta) := h ▸ pi_zip hg hm ha hs hpl
theorem kgt {es : List Expr} {k : Nat} {t : TGs} {n : Nat} {pos : Pos} (h : X.K = K) (hc : X.calm = true) (hg : PGs X es t) (hn : (assignEach es X.env).length = n := by rfl) (hst : (assignEach es X.env).findIdx? (·.1) = none := by rfl) : PG X (.Tuple es k pos) (gTup K n t) := h ▸ pg_tup hc hg hn hst
theorem kgu {es : List Expr} {k : Nat} {t : TGs} {n : Nat} {pos : Pos} (h : X.K = K) (hc : X.calm = true) (hg : PGs X es t) (hn : (assignEach es X.env).length = n := by rfl) (hst : (assignEach es X.env).findIdx? (·.1) = none := by rfl) : PG X (.Tuple es k pos) (gUnl K n t) := h ▸ pg_unl hc hg hn hst
theorem kbm {o e : Expr} {es : List Expr} {name : Str} {apos cpos : Pos} {T : String} {id : String} {r : V → List V → Hp → VK → Prop} {to : TE} {t : TA} (h : X.K = K) (hp : PE X (.Call (.Attribute o name apos) (e :: es) [] cpos) (tBM X.K T r to t)) : PE X (.Call (.Attribute o name apos) (e :: es) [] cpos) (tBM K T r to t) := h ▸ hp
theorem kbm0 {o : Expr} {name : Str} {apos cpos : Pos} {T : String} {r : V → List V → Hp → VK → Prop} {to : TE} (h : X.K = K) (hp : PE X (.Call (.Attribute o name apos) [] [] cpos) (tBM0 X.K T r to)) : PE X (.Call (.Attribute o name apos) [] [] cpos) (tBM0 K T r to) := h ▸ hp
end
/-- if t: .. without else, the way that goes on told by C -/
theorem ws_ifn {K : PySem.W.Frag} {tt : TT} {t : TS} {ρ : Env} {E : EndD} {C : Prop} (h : EvT K tt ρ fun b ρ' => if b = true then WS K t ρ' E else ρ' = ρ ∧ C) (k : C → E.nx ρ) : WS K (tIfS tt t tNext) ρ E :=
  ws_if (et_weak h fun b ρ' q => by
    cases b with
    | true => exact q
    | false =>
      obtain ⟨rfl, c⟩ := q
      exact ws_next (k c))
end DL

set_option Elab.async false
set_option linter.all false
set_option maxRecDepth 100000
namespace DL
open PySem PySem.Spec PyProof.Rows L2
section
variable {K : PySem.W.Frag} {te ta tb tc td ty tv : TE} {tt tu : TT} {ts : TA} {ρ : Env} {Q : D → Env → Prop} {E : EndD}
/-! ### the state of draws -/
theorem ew_drwix {i : Nat} {a : Addr} {j : Int} (hi : ρ[i]? = some (.drw a)) (hj : 0 ≤ j ∧ j < 3) (h : ∀ x, Q (.int x) ρ) : EvW K (tOp (rIx K) (tVar i) (tC (.int j))) ρ Q := fun F G H σ R Q' k => by
  obtain ⟨s, hs, rfl, _, _, x, y, z, hd⟩ := R.sl.get hi
  have key : ∃ n, atI ([.int x, .int y, .int z] : List V) j = some (.int n) := by
    have : j = 0 ∨ j = 1 ∨ j = 2 := by omega
    rcases this with rfl | rfl | rfl
    · exact ⟨x, rfl⟩
    · exact ⟨y, rfl⟩
    · exact ⟨z, rfl⟩
  obtain ⟨n, hn⟩ := key
  exact ⟨.ref a, hs, .inl ⟨a, _, j, .int n, rfl, rfl, .inl (.inl hd), hn, k _ _ ρ G H (Ex.refl G) R (.int n) (h n)⟩⟩
theorem ws_drwset {i : Nat} {a : Addr} {j : Int} (hi : ρ[i]? = some (.drw a)) (hj : 0 ≤ j ∧ j < 3) (h : EvW K te ρ fun d ρ1 => ∃ n, d = .int n ∧ ρ1[i]? = some (.drw a) ∧ E.nx ρ1) : WS K (tAsg te (gSub (tVar i) (tC (.int j)) rSetL)) ρ E := fun F G H σ Dn R L =>
  h F G H σ R _ fun v d ρ1 G1 H1 e1 R1 hv q => by
    obtain ⟨n, rfl, hi1, q⟩ := q
    rw [rep_int hv]
    obtain ⟨s, hs, rfl, hG, hF, x, y, z, hd⟩ := R1.sl.get hi1
    have key : ∃ m, ixN 3 j = some m ∧ ∃ x' y' z', ([.int x, .int y, .int z] : List V).set m (.int n) = [.int x', .int y', .int z'] := by
      have : j = 0 ∨ j = 1 ∨ j = 2 := by omega
      rcases this with rfl | rfl | rfl
      · exact ⟨0, rfl, n, y, z, rfl⟩
      · exact ⟨1, rfl, x, n, z, rfl⟩
      · exact ⟨2, rfl, x, y, n, rfl⟩
    obtain ⟨m, hm, x', y', z', es⟩ := key
    refine ⟨.ref a, hs, a, _, j, m, rfl, rfl, hd, hm, ?_⟩
    rw [es]
    have R2 := R1.mut (r' := .drw a) (o := .lst [.int x', .int y', .int z']) hi1 (List.mem_singleton.mpr rfl) (List.Sublist.refl _) hs ⟨rfl, hG, hF, x', y', z', upd_same⟩
    rw [set_same hi1] at R2
    exact L.nx _ _ G1 _ e1 R2 q
/-! ### own lists -/
theorem ew_append {i : Nat} {a : Addr} {d0 : List D} (hi : ρ[i]? = some (.own a (.lst d0))) (h : EvW K te ρ fun d ρ1 => ∃ ds, ρ1[i]? = some (.own a (.lst ds)) ∧ ds.length < 90000 ∧ Q .non (ρ1.set i (.own a (.lst (ds ++ [d]))))) :
    EvW K (tBM K "list" rAppend (tVar i) (tCons te tNil)) ρ Q := fun F G H σ R Q' k => by
  obtain ⟨s, hs, rfl, _, _, vs0, hd0, _⟩ := R.sl.get hi
  refine ⟨.ref a, hs, .inl ⟨rfl, vs0, .inl (.inl hd0)⟩, h F G H σ R _ fun v d ρ1 G1 H1 e1 R1 hv q => ?_⟩
  obtain ⟨ds, hi1, hl, q⟩ := q
  obtain ⟨_, hs1, e, hG, hF, vs, hd, hr⟩ := R1.sl.get hi1
  refine ⟨a, vs, v, rfl, rfl, hd, by rw [hr.length]; exact bigl (by omega), ?_⟩
  exact k .non .non _ G1 _ e1 (R1.mut (r' := .own a (.lst (ds ++ [d]))) hi1 (List.mem_singleton.mpr rfl) (List.Sublist.refl _) hs ⟨rfl, hG, hF, _, upd_same, hr.append (.cons hv .nil)⟩) .non q
theorem ew_popAt {i : Nat} {a : Addr} {d0 : List D} (hi : ρ[i]? = some (.own a (.lst d0))) (h : EvW K te ρ fun d ρ1 => ∃ ds j y, d = .int j ∧ ρ1[i]? = some (.own a (.lst ds)) ∧ 0 ≤ j ∧ j < 100000 ∧ ds[j.toNat]? = some y ∧ Q y (ρ1.set i (.own a (.lst (ds.eraseIdx j.toNat))))) :
    EvW K (tBM K "list" rPopAt (tVar i) (tCons te tNil)) ρ Q := fun F G H σ R Q' k => by
  obtain ⟨s, hs, rfl, _, _, vs0, hd0, _⟩ := R.sl.get hi
  refine ⟨.ref a, hs, .inl ⟨rfl, vs0, .inl (.inl hd0)⟩, h F G H σ R _ fun v d ρ1 G1 H1 e1 R1 hv q => ?_⟩
  obtain ⟨ds, j, y, rfl, hi1, h0, h1, hy, q⟩ := q
  rw [rep_int hv]
  obtain ⟨_, hs1, e, hG, hF, vs, hd, hr⟩ := R1.sl.get hi1
  obtain ⟨x, hx, hxr⟩ := hr.get hy
  have hlt := (List.getElem?_eq_some_iff.mp hx).1
  have hj : ixN vs.length j = some j.toNat := by
    unfold ixN
    rw [if_pos h0, if_pos (by omega)]
  refine ⟨a, vs, j, j.toNat, x, rfl, rfl, hd, by omega, by omega, (ixN_seq hj).1, hx, ?_⟩
  exact k x y _ G1 _ e1 (R1.mut (r' := .own a (.lst (ds.eraseIdx j.toNat))) hi1 (List.mem_singleton.mpr rfl) (List.Sublist.refl _) hs ⟨rfl, hG, hF, _, upd_same, hr.eraseIdx _⟩) hxr q
/-! ### own dicts -/
def dput {κ : Type} [DecidableEq κ] (ps : List (κ × D)) (k : κ) (d : D) : List (κ × D) :=
  if (ps.any fun kv => decide (kv.1 = k)) = true then ps.map (fun kv => if kv.1 = k then (kv.1, d) else kv) else ps ++ [(k, d)]
theorem any_keys {κ α β : Type} [DecidableEq κ] (k : κ) : ∀ {kvs : List (κ × α)} {ps : List (κ × β)}, kvs.map (·.1) = ps.map (·.1) → (kvs.any fun kv => decide (kv.1 = k)) = ps.any fun kv => decide (kv.1 = k)
  | [], [], _ => rfl
  | [], _ :: _, e => by simp at e
  | _ :: _, [], e => by simp at e
  | kv :: kvs, p :: ps, e => by
    simp only [List.map_cons, List.cons.injEq] at e
    rw [List.any_cons, List.any_cons, any_keys k e.2, e.1]
theorem put_rel {κ : Type} [DecidableEq κ] {H : Hp} {kvs : List (κ × V)} {ps : List (κ × D)} {k : κ} {v : V} {d : D} (e : kvs.map (·.1) = ps.map (·.1)) (r : Reps K H (kvs.map (·.2)) (ps.map (·.2))) (hv : Rep K H v d) :
    (putK kvs k v).map (·.1) = (dput ps k d).map (·.1) ∧ Reps K H ((putK kvs k v).map (·.2)) ((dput ps k d).map (·.2)) := by
  unfold putK dput
  rw [any_keys k e]
  split
  · have key : ∀ {kvs : List (κ × V)} {ps : List (κ × D)}, kvs.map (·.1) = ps.map (·.1) → Reps K H (kvs.map (·.2)) (ps.map (·.2)) →
        (kvs.map fun kv => if kv.1 = k then (kv.1, v) else kv).map (·.1) = (ps.map fun kv => if kv.1 = k then (kv.1, d) else kv).map (·.1) ∧ Reps K H ((kvs.map fun kv => if kv.1 = k then (kv.1, v) else kv).map (·.2)) ((ps.map fun kv => if kv.1 = k then (kv.1, d) else kv).map (·.2)) := by
      intro kvs
      induction kvs with
      | nil => intro ps e r; cases ps with
        | nil => exact ⟨rfl, .nil⟩
        | cons _ _ => simp at e
      | cons kv kvs ih =>
        intro ps e r
        cases ps with
        | nil => simp at e
        | cons p ps =>
          simp only [List.map_cons, List.cons.injEq] at e
          cases r with
          | cons r1 r2 =>
            obtain ⟨i1, i2⟩ := ih e.2 r2
            simp only [List.map_cons]
            by_cases hk : kv.1 = k
            · have hp : p.1 = k := e.1 ▸ hk
              rw [if_pos hk, if_pos hp]
              exact ⟨by rw [i1, e.1], .cons hv i2⟩
            · have hp : ¬ p.1 = k := fun z => hk (e.1.trans z)
              rw [if_neg hk, if_neg hp]
              exact ⟨by rw [i1, e.1], .cons r1 i2⟩
    exact key e r
  · rw [List.map_append, List.map_append, List.map_append, List.map_append, e]
    exact ⟨rfl, r.append (.cons hv .nil)⟩
/-- d[k] = v, d the def's own -/
theorem ws_dput {i : Nat} {a : Addr} (h : EvW K tv ρ fun d ρ1 => (∃ p0, ρ1[i]? = some (.own a p0)) ∧ EvW K ty ρ1 fun y ρ2 => ∃ k ps, y = kD k ∧ ρ2[i]? = some (.own a (.dk ps)) ∧ ps.length < 90000 ∧ E.nx (ρ2.set i (.own a (.dk (dput ps k d))))) :
    WS K (sDPut (tVar i) ty tv) ρ E := fun F G H σ Dn R L =>
  h F G H σ R _ fun v d ρ1 G1 H1 e1 R1 hv q => by
    obtain ⟨⟨p0, hi1⟩, q⟩ := q
    obtain ⟨_, hs1, rfl, _⟩ := R1.sl.get hi1
    refine ⟨.ref a, hs1, q F G1 H1 σ R1 _ fun w y ρ2 G2 H2 e2 R2 hw q2 => ?_⟩
    obtain ⟨kk, ps, rfl, hi2, hl, q2⟩ := q2
    obtain ⟨_, hs2, e, hG, hF, kvs, hd, hk, hr⟩ := R2.sl.get hi2
    obtain ⟨z1, z2⟩ := put_rel (k := kk) hk hr (hv.mono e2)
    have hlen : kvs.length = ps.length := by have := congrArg List.length hk; simpa using this
    refine ⟨a, upd H2 a (.dK (putK kvs kk v)), rfl, .inl ⟨kvs, kk, hd, rep_kD hw, by rw [hlen]; exact bigl (by omega), rfl⟩, ?_⟩
    exact L.nx _ _ G2 _ (e1.trans e2) (R2.mut (r' := .own a (.dk (dput ps kk d))) hi2 (List.mem_singleton.mpr rfl) (List.Sublist.refl _) hs1 ⟨rfl, hG, hF, _, upd_same, z1, z2⟩) q2
theorem ownR_nx {G : Hp} {o : Option HO} {d : D} (h : OwnR K G o d) {c : Addr} {q : Str} : o ≠ some (LamX.CodeO c q) := fun e => by
  unfold LamX.CodeO at e
  cases d with
  | lst _ => obtain ⟨vs, e1, _⟩ := h; rw [e1] at e; cases e
  | dk _ => obtain ⟨vs, e1, _⟩ := h; rw [e1] at e; cases e
  | dt _ => obtain ⟨vs, e1, _⟩ := h; rw [e1] at e; cases e
  | ins _ _ => obtain ⟨dx, vs, e1, _⟩ := h; rw [e1] at e; cases e
  | _ => exact h.elim
/-! ### own things looked at -/
def D.flat : D → Bool
  | .non => true
  | .bl _ => true
  | .int _ => true
  | .str _ => true
  | _ => false
theorem flat_rep {H H' : Hp} {v : V} {d : D} (hf : d.flat = true) (h : Rep K H v d) : Rep K H' v d := by
  cases h with
  | non => exact .non
  | bl b => exact .bl b
  | int b => exact .int b
  | str b => exact .str b
  | _ => cases hf
def shr : Sl → Sl
  | .own _ d => .sh d
  | r => r
def ownO (ρ : Env) : List Addr := ρ.flatMap fun r => match r with
  | .own a _ => [a]
  | _ => []
theorem ownO_sub {a : Addr} (m : a ∈ ownO ρ) : ∃ (i : Nat) (d : D), ρ[i]? = some (Sl.own a d) := by
  obtain ⟨r, hr, m⟩ := List.mem_flatMap.mp m
  obtain ⟨i, hi⟩ := List.mem_iff_getElem?.mp hr
  cases r with
  | own b d => exact ⟨i, d, by rw [hi, List.mem_singleton.mp m]⟩
  | _ => cases m
theorem ownO_mem {a : Addr} {i : Nat} {d : D} (h : ρ[i]? = some (.own a d)) : a ∈ ownO ρ := List.mem_flatMap.mpr ⟨_, List.mem_of_getElem? h, List.mem_singleton.mpr rfl⟩
theorem slots_map {F G H F' G' H' : Hp} {f : Sl → Sl} : ∀ {σ : L2.St} {ρ : Env}, Slots K F G H σ ρ → (∀ (i : Nat) s r, σ[i]? = some s → ρ[i]? = some r → SlotOk K F G H s r → SlotOk K F' G' H' s (f r)) → Slots K F' G' H' σ (ρ.map f)
  | [], [], _, _ => trivial
  | [], _ :: _, h, _ => h.elim
  | _ :: _, [], h, _ => h.elim
  | s :: σ, r :: ρ, h, k => ⟨k 0 s r rfl rfl h.1, slots_map h.2 fun i s' r' hs hr => k (i + 1) s' r' (by simpa using hs) (by simpa using hr)⟩
theorem ownA_shr : ∀ ρ : Env, (ownA (ρ.map shr)).Sublist (ownA ρ)
  | [] => List.Sublist.refl _
  | r :: ρ => by
    rw [List.map_cons, ownA_cons, ownA_cons]
    refine List.Sublist.append ?_ (ownA_shr ρ)
    cases r <;> first | exact List.Sublist.refl _ | exact List.nil_sublist _
theorem ew_peek (h : EvW K te (ρ.map shr) fun d ρ' => ρ' = ρ.map shr ∧ d.flat = true ∧ Q d ρ) : EvW K te ρ Q := fun F G H σ R Q' k => by
  have gx : Ex G (addF G H (ownO ρ)) := fun b u e => by
    by_cases m : b ∈ ownO ρ
    · obtain ⟨i, d, hi⟩ := ownO_sub m
      rw [(R.sl.own (adr_mem hi (List.mem_singleton.mpr rfl))).1] at e; cases e
    · rw [addF_out m]; exact e
  have R1 : RE K F (addF G H (ownO ρ)) H σ (ρ.map shr) := by
    refine ⟨⟨R.wd.f, fun b u e => ?_, fun b u e => ?_, R.wd.ft⟩, slots_map R.sl (fun i s r hs hr q => ?_), List.Nodup.sublist (ownA_shr ρ) R.nd⟩
    · by_cases m : b ∈ ownO ρ
      · rw [addF_in m] at e; exact e
      · rw [addF_out m] at e; exact R.wd.g b u e
    · by_cases m : b ∈ ownO ρ
      · obtain ⟨i, d, hi⟩ := ownO_sub m
        rw [(R.sl.own (adr_mem hi (List.mem_singleton.mpr rfl))).2.1] at e; cases e
      · rw [addF_out m]; exact R.wd.fg b u e
    · cases r with
      | own a d =>
        obtain ⟨h0, h1, h2, h3⟩ := q
        exact ⟨.ref a, h0, ownR_rep h3 (addF_in (ownO_mem hr)) gx⟩
      | un => trivial
      | sh d => exact q.step gx fun a m => by cases m
      | drw a =>
        refine q.step gx fun b m => ⟨rfl, ?_⟩
        rw [addF_out fun z => ?_]
        · exact (q.own m).1
        · obtain ⟨j, d, hj⟩ := ownO_sub z
          by_cases e : i = j
          · subst e; rw [hr] at hj; cases hj
          · exact nodup_apart R.nd hr hj e m (List.mem_singleton.mpr rfl)
      | two p q' xs ys =>
        refine q.step gx fun b m => ⟨rfl, ?_⟩
        rw [addF_out fun z => ?_]
        · exact (q.own m).1
        · obtain ⟨j, d, hj⟩ := ownO_sub z
          by_cases e : i = j
          · subst e; rw [hr] at hj; cases hj
          · exact nodup_apart R.nd hr hj e m (List.mem_singleton.mpr rfl)
      | tab d' P' q' =>
        refine q.step gx fun b m => ⟨rfl, ?_⟩
        rw [addF_out fun z => ?_]
        · exact (q.own m).1
        · obtain ⟨j, d, hj⟩ := ownO_sub z
          by_cases e : i = j
          · subst e; rw [hr] at hj; cases hj
          · exact nodup_apart R.nd hr hj e m (List.mem_singleton.mpr rfl)
  refine h F _ H σ R1 Q' fun v d ρ' G2 H2 e2 R2 hv q => ?_
  obtain ⟨rfl, hf, q⟩ := q
  have own2 : ∀ b, b ∈ ownO ρ → H2 b = H b := fun b m => by
    obtain ⟨i, d, hi⟩ := ownO_sub m
    obtain ⟨_, _, u, hu, _⟩ := R.sl.own (adr_mem hi (List.mem_singleton.mpr rfl))
    rw [hu]
    exact R2.wd.g b u (e2 b u (by rw [addF_in m]; exact hu))
  let G3 : Hp := fun b => if b ∈ ownO ρ then none else G2 b
  have g3i : ∀ {b}, b ∈ ownO ρ → G3 b = none := fun m => if_pos m
  have g3o : ∀ {b}, b ∉ ownO ρ → G3 b = G2 b := fun m => if_neg m
  have e3 : Ex G G3 := fun b u e => by
    by_cases m : b ∈ ownO ρ
    · obtain ⟨i, d, hi⟩ := ownO_sub m
      rw [(R.sl.own (adr_mem hi (List.mem_singleton.mpr rfl))).1] at e; cases e
    · rw [g3o m]; exact e2 b u (gx b u e)
  refine k v d ρ G3 H2 e3 ⟨⟨R2.wd.f, fun b u e => ?_, fun b u e => ?_, R2.wd.ft⟩, R.sl.map (fun i s r hs hr z => ?_), R.nd⟩ (flat_rep hf hv) q
  · by_cases m : b ∈ ownO ρ
    · rw [g3i m] at e; cases e
    · rw [g3o m] at e; exact R2.wd.g b u e
  · by_cases m : b ∈ ownO ρ
    · exact g3i m
    · rw [g3o m]; exact R2.wd.fg b u e
  · have hr2 : (ρ.map shr)[i]? = some (shr r) := by rw [List.getElem?_map, hr]; rfl
    obtain ⟨s', hs', z2⟩ := R2.sl.get hr2
    rw [hs] at hs'; cases hs'
    have out : ∀ {b}, (∀ d, r ≠ .own b d) → b ∈ r.adr → b ∉ ownO ρ := fun {b} hne m z => by
      obtain ⟨j, d, hj⟩ := ownO_sub z
      by_cases e : i = j
      · subst e; rw [hr] at hj; cases hj; exact hne d rfl
      · exact nodup_apart R.nd hr hj e m (List.mem_singleton.mpr rfl)
    cases r with
    | un => trivial
    | sh d => exact z.step e3 fun a m => by cases m
    | own a d =>
      refine z.step e3 fun b m => ?_
      rw [List.mem_singleton.mp m]
      exact ⟨own2 a (ownO_mem hr), g3i (ownO_mem hr)⟩
    | drw a =>
      obtain ⟨h0, h1, h2, h3⟩ := z2
      exact ⟨h0, by rw [g3o (out (fun d z => nomatch z) (List.mem_singleton.mpr rfl))]; exact h1, h2, h3⟩
    | tab d' P' q' =>
      obtain ⟨⟨v', k0, k00⟩, _⟩ := z
      obtain ⟨_, h1, h2, ps, h3, h4, h5⟩ := z2
      refine ⟨⟨v', k0, k00.mono e3⟩, ?_, h2, ps, h3, h4, fun pos cv hc => ?_⟩
      · rw [g3o (out (fun d z => nomatch z) (List.mem_singleton.mpr rfl))]; exact h1
      · obtain ⟨c, e1, ec⟩ := h5 pos cv hc
        refine ⟨c, e1, ?_⟩
        rw [g3o fun m => ?_]
        · exact ec
        · obtain ⟨i', d'', hi'⟩ := ownO_sub m
          obtain ⟨_, _, _, _, _, ho0⟩ := R.sl.get hi'
          have ho : OwnR K G (H c) d'' := ho0
          obtain ⟨u, hu, _⟩ := ho.some
          have e4 : G2 c = some u := e2 c u (by rw [addF_in m]; exact hu)
          rw [e4] at ec
          exact ownR_nx ho (hu.trans ec)
    | two p q' xs ys =>
      obtain ⟨⟨t, h0, ht⟩, h1, h2, h3, h4, h5, h6⟩ := z2
      obtain ⟨⟨t', h0', ht'⟩, _⟩ := z
      have et : t' = t := by rw [h0] at h0'; cases h0'; rfl
      subst et
      exact ⟨⟨t', h0, e3 _ _ ht'⟩, by rw [g3o (out (fun d z => nomatch z) List.mem_cons_self)]; exact h1, h2, by rw [g3o (out (fun d z => nomatch z) (List.mem_cons_of_mem _ (List.mem_singleton.mpr rfl)))]; exact h3, h4, h5, h6⟩
theorem et_peek {Q : Bool → Env → Prop} (h : EvT K tt (ρ.map shr) fun d ρ' => ρ' = ρ.map shr ∧ Q d ρ) : EvT K tt ρ Q := by
  intro F G H σ R Q' k
  -- a test as an expression of a truth value
  exact ew_peek (K := K) (te := fun σ H Q => tt σ H fun b H1 => Q (.bl b) H1) (ρ := ρ) (Q := fun d ρ' => ∃ b, d = .bl b ∧ Q b ρ')
    (fun F G H σ R Q' k => h F G H σ R _ fun b ρ' G' H' e R' q => k (.bl b) (.bl b) ρ' G' H' e R' (.bl b) ⟨q.1, rfl, b, rfl, q.2⟩)
    F G H σ R (fun v H1 => match v with | .bl b => Q' b H1 | _ => True) fun v d ρ' G' H' e R' hv q => by
      obtain ⟨b', rfl, q⟩ := q
      rw [rep_bl hv]
      exact k _ ρ' G' H' e R' q
end
end DL

set_option Elab.async false
set_option linter.all false
set_option maxRecDepth 100000
namespace DL
open PySem PySem.Spec PyProof.Rows L2
section
variable {K : PySem.W.Frag} {te ta tb tc td ty tv : TE} {tt tu : TT} {ts : TA} {ρ : Env} {Q : D → Env → Prop} {E : EndD}
/-! ### new lists and tuples -/
theorem en_of {F G H : Hp} {σ : L2.St} {ρ : Env} (R : RE K F G H σ ρ) {p : Addr} (hp : H p = none) {vs : List V} {ds : List D} (hr : Reps K G vs ds) :
    RE K F G (upd H p (.lst vs)) σ ρ ∧ G p = none ∧ F p = none ∧ p ∉ ownA ρ ∧ OwnR K G (upd H p (.lst vs) p) (.lst ds) :=
  ⟨R.alone hp, R.wd.g.none hp, R.wd.f.none hp, ownA_fresh R hp, vs, upd_same, hr⟩
theorem tn_of {F G H : Hp} {σ : L2.St} {ρ : Env} (R : RE K F G H σ ρ) {p : Addr} (hp : H p = none) {vs : List V} {ds : List D} (hr : Reps K G vs ds) :
    Ex G (upd G p (.tup vs)) ∧ RE K F (upd G p (.tup vs)) (upd H p (.tup vs)) σ ρ ∧ Rep K (upd G p (.tup vs)) (.ref p) (.tup ds) :=
  ⟨Ex.new (R.wd.g.none hp), R.new hp, .tup upd_same (hr.mono (Ex.new (R.wd.g.none hp)))⟩
/-- xs + ys, lists -/
theorem en_cat (h : EvW K ta ρ fun x ρ1 => EvW K tb ρ1 fun y ρ2 => ∃ xs ys, x = .lst xs ∧ y = .lst ys ∧ xs.length + ys.length ≤ 90000 ∧ Q (.lst (xs ++ ys)) ρ2) : EvN K (tOp rCat ta tb) ρ Q := fun F G H σ R Q' k =>
  h F G H σ R _ fun v x ρ1 G1 H1 e1 R1 hv q1 => q1 F G1 H1 σ R1 _ fun w y ρ2 G2 H2 e2 R2 hw q2 => by
    obtain ⟨xs, ys, rfl, rfl, hl, q⟩ := q2
    obtain ⟨a, vs, rfl, h1, h2⟩ := rep_lst (hv.mono e2)
    obtain ⟨b, ws, rfl, h3, h4⟩ := rep_lst hw
    refine ⟨a, b, vs, ws, rfl, rfl, R2.wd.g _ _ h1, R2.wd.g _ _ h3, by rw [h2.length, h4.length]; exact big (by omega), fun p hp => ?_⟩
    obtain ⟨z1, z2, z3, z4, z5⟩ := en_of R2 hp (h2.append h4)
    exact k p _ ρ2 G2 _ (e1.trans e2) z1 z2 z3 z4 z5 q
/-- t + u, tuples -/
theorem op2_catT {xs ys : List D} (hl : xs.length + ys.length ≤ 90000) (q : Q (.tup (xs ++ ys)) ρ) : Op2 K (rCatA K) (.tup xs) (.tup ys) ρ Q := fun F G H σ R v w hv hw Q' k => by
  obtain ⟨a, vs, rfl, h1, h2⟩ := rep_tup hv
  obtain ⟨b, ws, rfl, h3, h4⟩ := rep_tup hw
  have l1 := h2.length
  have l2 := h4.length
  refine ⟨a, b, vs, ws, rfl, rfl, R.wd.g.sqT h1, R.wd.g.sqT h3, by rw [l1, l2]; exact big (by omega), fun e => ?_, fun _ e => ?_, fun _ _ p hp => ?_⟩
  · have : xs = [] := List.length_eq_zero_iff.mp (by rw [← l1, e]; rfl)
    subst this
    exact k _ _ ρ G H (Ex.refl G) R (.tup h3 h4) q
  · have : ys = [] := List.length_eq_zero_iff.mp (by rw [← l2, e]; rfl)
    subst this
    rw [List.append_nil] at q
    exact k _ _ ρ G H (Ex.refl G) R (.tup h1 h2) q
  · obtain ⟨z1, z2, z3⟩ := tn_of R hp (h2.append h4)
    exact k _ _ ρ _ _ z1 z2 z3 q
/-- tuple(x), list(x) -/
theorem opa_tuple {x : D} {ds : List D} (hx : x.seq = some ds) (q : Q (.tup ds) ρ) : OpA K (rTupOf K) [x] ρ Q := fun F G H σ R vs hv Q' k => by
  obtain ⟨v, rfl, h⟩ := hv.one
  cases x with
  | lst xs =>
    cases hx
    obtain ⟨a, ws, rfl, h1, h2⟩ := rep_lst h
    refine ⟨a, ws, rfl, .inl ⟨.inl (.inl (R.wd.g _ _ h1)), fun p hp => ?_⟩⟩
    obtain ⟨z1, z2, z3⟩ := tn_of R hp h2
    exact k _ _ ρ _ _ z1 z2 z3 q
  | tup xs =>
    cases hx
    obtain ⟨a, ws, rfl, h1, h2⟩ := rep_tup h
    exact ⟨a, ws, rfl, .inr ⟨R.wd.g.sqT h1, k _ _ ρ G H (Ex.refl G) R h q⟩⟩
  | _ => cases hx
theorem opn_list {x : D} {ds : List D} (hx : x.seq = some ds) (q : Q (.lst ds) ρ) : OpN K (rLstOf K) [x] ρ Q := fun F G H σ R vs hv Q' k => by
  obtain ⟨v, rfl, h⟩ := hv.one
  cases x with
  | lst xs =>
    cases hx
    obtain ⟨a, ws, rfl, h1, h2⟩ := rep_lst h
    refine ⟨a, ws, rfl, .inl (.inl (.inl (R.wd.g _ _ h1))), fun p hp => ?_⟩
    obtain ⟨z1, z2, z3, z4, z5⟩ := en_of R hp h2
    exact k p _ ρ G _ (Ex.refl G) z1 z2 z3 z4 z5 q
  | tup xs =>
    cases hx
    obtain ⟨a, ws, rfl, h1, h2⟩ := rep_tup h
    refine ⟨a, ws, rfl, .inr (R.wd.g.sqT h1), fun p hp => ?_⟩
    obtain ⟨z1, z2, z3, z4, z5⟩ := en_of R hp h2
    exact k p _ ρ G _ (Ex.refl G) z1 z2 z3 z4 z5 q
  | _ => cases hx
/-- sorted(d), d with texts for keys -/
def rSortD : List V → Hp → VK → Prop := fun xs H Q => ∃ (a : Addr) (kvs : List (Key × V)) (ks : List Str), xs = [.ref a] ∧ Rd H a (.dK kvs) ∧ kvs.map (·.1) = ks.map Sum.inr ∧ ks.length < 64 ∧
    ∀ ys p, ys.Perm ks → sortedS ys = true → H p = none → Q (.ref p) (upd H p (.lst (ys.map V.str)))
theorem csortD {X : Cx} (hc : X.calm = true) : CallR X (.builtin "sorted") rSortD := call_sortedD hc
theorem reps_of_strs {H : Hp} : ∀ xs : List Str, Reps K H (xs.map V.str) (strsD xs)
  | [] => .nil
  | x :: xs => .cons (.str x) (reps_of_strs xs)
theorem opn_sortD {ps : List (Key × D)} {ks : List Str} (hk : ps.map (·.1) = ks.map Sum.inr) (hl : ks.length < 64) (q : ∀ ys : List Str, ys.Perm ks → sortedS ys = true → Q (.lst (strsD ys)) ρ) : OpN K rSortD [.dk ps] ρ Q := fun F G H σ R vs hv Q' k => by
  obtain ⟨v, rfl, h⟩ := hv.one
  obtain ⟨a, kvs, rfl, h1, h2, h3⟩ := rep_dk h
  refine ⟨a, kvs, ks, rfl, R.wd.g.rdx.1 _ _ trivial h1, h2.trans hk, hl, fun ys p hp hs hn => ?_⟩
  obtain ⟨z1, z2, z3, z4, z5⟩ := en_of R hn (reps_of_strs (K := K) (H := G) ys)
  exact k p _ ρ G _ (Ex.refl G) z1 z2 z3 z4 z5 (q ys hp hs)
/-- int(n) -/
theorem opa_int {i : Int} (q : Q (.int i) ρ) : OpA K (fun xs H Q => (∃ i, xs = [.int i] ∧ Q (.int i) H) ∨ ∃ k, xs = [.bl k] ∧ Q (.int (if k then 1 else 0)) H) [.int i] ρ Q := fun F G H σ R vs hv Q' k => by
  obtain ⟨v, rfl, h⟩ := hv.one
  rw [rep_int h]
  exact .inl ⟨i, rfl, k _ _ ρ G H (Ex.refl G) R (.int i) q⟩
theorem opa_min {i j : Int} (q : Q (.int (if j < i then j else i)) ρ) : OpA K (fun xs H Q => ∃ i j, xs = [.int i, .int j] ∧ Q (.int (if j < i then j else i)) H) [.int i, .int j] ρ Q := fun F G H σ R vs hv Q' k => by
  obtain ⟨v, w, rfl, h1, h2⟩ := hv.two
  rw [rep_int h1, rep_int h2]
  exact ⟨i, j, rfl, k _ _ ρ G H (Ex.refl G) R (.int _) q⟩
/-! ### the script -/
theorem rep_scr {H : Hp} {v : V} {ns : List Int} (h : Rep K H v (.scr ns)) : ∃ a, v = .ref a ∧ SqL K H a (ns.map V.int) := by
  cases h with | scr a => exact ⟨_, rfl, a⟩
theorem Ex.sqL {H H' : Hp} {a : Addr} {xs : List V} (e : Ex H H') (h : SqL K H a xs) : SqL K H' a xs := e.rdx.sqL h
theorem opa_len_scr {ns : List Int} (q : Q (.int ns.length) ρ) : OpA K (rLenU K) [.scr ns] ρ Q := fun F G H σ R vs hv Q' k => by
  obtain ⟨v, rfl, h⟩ := hv.one
  obtain ⟨a, rfl, h1⟩ := rep_scr h
  refine .inl (.inl ⟨a, _, rfl, .inl (R.wd.g.sqL h1), ?_⟩)
  rw [List.length_map]
  exact k _ _ ρ G H (Ex.refl G) R (.int _) q
theorem op2_ix_scr {ns : List Int} {j : Nat} {n : Int} (h : ns[j]? = some n) (q : Q (.int n) ρ) : Op2 K (rIx K) (.scr ns) (.int (j : Nat)) ρ Q := fun F G H σ R v w hv hw Q' k => by
  obtain ⟨a, rfl, h1⟩ := rep_scr hv
  exact .inl ⟨a, _, j, .int n, rfl, rep_int hw, R.wd.g.sqL h1, atI_nat (by rw [List.getElem?_map, h]; rfl), k _ _ ρ G H (Ex.refl G) R (.int n) q⟩
/-! ### two new objects at once -/
theorem RE.unfrm' {F G H : Hp} {σ : L2.St} {ρ : Env} {p : Addr} {o : HO} (R : RE K (upd F p o) G H σ ρ) (hF : F p = none) : p ∉ ownA ρ := fun m => by
  have z := (R.sl.own m).2.1
  rw [upd_same] at z; cases z
/-- a, b = new, new -/
theorem ws_parNN {i j : Nat} (hij : i ≠ j) (h : EvN K ta ρ fun d ρ1 => EvN K tb ρ1 fun e ρ2 => ∀ p q, E.nx ((ρ2.set i (.own p d)).set j (.own q e))) : WS K (tPar i j (tCons ta (tCons tb tNil))) ρ E := fun F G H σ Dn R L =>
  h F G H σ R _ fun p d ρ1 G1 H1 e1 R1 hG hF hO o q => by
    obtain ⟨u, hu, hm⟩ := o.some
    refine q (upd F p u) G1 H1 σ (R1.frm hu hG hO (nt_mut hm)) _ fun p2 e ρ2 G2 H2 e2 R2 hG2 hF2 hO2 o2 q2 => ?_
    obtain ⟨R3, h3, g3⟩ := R2.unfrm hF
    have np : p ∉ ownA ρ2 := R2.unfrm' hF
    have nq : p2 ≠ p := fun z => by rw [z, upd_same] at hF2; cases hF2
    have hF2' : F p2 = none := by rw [upd_ne nq] at hF2; exact hF2
    have o1 : OwnR K G2 (H2 p) d := by rw [h3, ← hu]; exact o.mono e2
    have R4 := R3.setOwn g3 hF np o1 i
    refine ⟨.ref p, .ref p2, rfl, L.nx _ _ G2 H2 (e1.trans e2) (R4.setOwn hG2 hF2' (fun m => ?_) o2 j) (q2 p p2)⟩
    rcases (ownA_set_own (r := .own p d) i R3.nd (show [p].Nodup from List.nodup_cons.mpr ⟨List.not_mem_nil, List.nodup_nil⟩) (fun a m => by rw [List.mem_singleton.mp m]; exact np)).2 p2 m with z | z
    · exact nq (List.mem_singleton.mp z)
    · exact hO2 z
/-- an own thing read: from now on it is shared -/
theorem ew_give {i : Nat} {a : Addr} {d : D} (hi : ρ[i]? = some (.own a d)) (q : Q d (ρ.set i (.sh d))) : EvW K (tVar i) ρ Q := fun F G H σ R Q' k => by
  obtain ⟨o, hσ, _, hG, R', rp⟩ := R.give hi
  exact ⟨.ref a, hσ, k _ d _ _ H (Ex.new hG) R' rp q⟩
/-! ### == and != of data at any depth -/
mutual
def toPy : D → Option PyData
  | .non => some .none
  | .bl b => some (.bool b)
  | .int i => some (.int i)
  | .str x => some (.str x)
  | .lst xs => (toPys xs).map PyData.list
  | .tup xs => (toPys xs).map PyData.tuple
  | .dk _ => none
  | .dt _ => none
  | .ins _ _ => none
  | .scr _ => none
  | .kt _ => none
def toPys : List D → Option (List PyData)
  | [] => some []
  | x :: xs => match toPy x, toPys xs with
    | some p, some ps => some (p :: ps)
    | _, _ => none
end
mutual
theorem rep_dp {H : Hp} : ∀ {v : V} {d : D} {p : PyData}, Rep K H v d → toPy d = some p → Dp K H v p
  | _, _, _, .non, e => by unfold toPy at e; cases e; exact .non
  | _, _, _, .bl b, e => by unfold toPy at e; cases e; exact .bl b
  | _, _, _, .int b, e => by unfold toPy at e; cases e; exact .int b
  | _, _, _, .str b, e => by unfold toPy at e; cases e; exact .str b
  | _, _, _, .lst h r, e => by
    unfold toPy at e
    obtain ⟨ps, h1, rfl⟩ := Option.map_eq_some_iff.mp e
    exact .lst (.inl (.inl h)) (reps_dp r h1)
  | _, _, _, .tup h r, e => by
    unfold toPy at e
    obtain ⟨ps, h1, rfl⟩ := Option.map_eq_some_iff.mp e
    exact .tup (.inl (.inl h)) (reps_dp r h1)
  | _, _, _, .dk _ _ _, e => by unfold toPy at e; cases e
  | _, _, _, .dt _ _ _, e => by unfold toPy at e; cases e
  | _, _, _, .ins _ _ _, e => by unfold toPy at e; cases e
  | _, _, _, .scr _, e => by unfold toPy at e; cases e
  | _, _, _, .kt _ _, e => by unfold toPy at e; cases e
theorem reps_dp {H : Hp} : ∀ {vs : List V} {ds : List D} {ps : List PyData}, Reps K H vs ds → toPys ds = some ps → DpAll K H vs ps
  | _, _, _, .nil, e => by unfold toPys at e; cases e; exact .nil
  | _, _, _, .cons (d := d) (ds := ds) h r, e => by
    unfold toPys at e
    cases e1 : toPy d with
    | none => rw [e1] at e; simp at e
    | some p =>
      cases e2 : toPys ds with
      | none => rw [e1, e2] at e; simp at e
      | some ps =>
        rw [e1, e2] at e
        cases e
        exact .cons (rep_dp h e1) (reps_dp r e2)
end
theorem op2_eqD {x y : D} {p q : PyData} (hx : toPy x = some p) (hy : toPy y = some q) (sx : SeqAt.shaped p = true) (sy : SeqAt.shaped q = true) (h : Q (.bl (PyData.eqv p q)) ρ) : Op2 K (rEqD K) x y ρ Q := fun F G H σ R v w hv hw Q' k =>
  ⟨p, q, rep_dp (hv.mono R.wd.g) hx, rep_dp (hw.mono R.wd.g) hy, sx, sy, k _ _ ρ G H (Ex.refl G) R (.bl _) h⟩
theorem op2_neD {x y : D} {p q : PyData} (hx : toPy x = some p) (hy : toPy y = some q) (sx : SeqAt.shaped p = true) (sy : SeqAt.shaped q = true) (h : Q (.bl (!PyData.eqv p q)) ρ) : Op2 K (rNeD K) x y ρ Q := fun F G H σ R v w hv hw Q' k =>
  ⟨p, q, rep_dp (hv.mono R.wd.g) hx, rep_dp (hw.mono R.wd.g) hy, sx, sy, k _ _ ρ G H (Ex.refl G) R (.bl _) h⟩
theorem toPys_strs : ∀ xs : List Str, toPys (strsD xs) = some (xs.map PyData.str)
  | [] => by unfold strsD; rw [List.map_nil, toPys]; rfl
  | x :: xs => by
    have ih := toPys_strs xs
    unfold strsD at ih ⊢
    rw [List.map_cons, toPys, toPy, ih]
    rfl
theorem shaped_strs {xs : List Str} (h : ∀ x ∈ xs, PyData.strOk x = true) : SeqAt.shaped (.list (xs.map PyData.str)) = true := by
  have key : ∀ xs : List Str, (∀ x ∈ xs, PyData.strOk x = true) → PyData.canLayAll0 (xs.map PyData.str) = true ∧ PyData.depthAll (xs.map PyData.str) = 0 := by
    intro xs
    induction xs with
    | nil => intro _; exact ⟨by simp [PyData.canLayAll0], by simp [PyData.depthAll]⟩
    | cons x xs ih =>
      intro h
      obtain ⟨i1, i2⟩ := ih fun y hy => h y (List.mem_cons_of_mem _ hy)
      refine ⟨?_, ?_⟩
      · rw [List.map_cons, PyData.canLayAll0, PyData.canLay0, h x List.mem_cons_self, i1]; rfl
      · rw [List.map_cons, PyData.depthAll, PyData.depth, i2]; rfl
  obtain ⟨k1, k2⟩ := key xs h
  unfold SeqAt.shaped
  rw [PyData.canLay0, k1, PyData.depth, k2]
  rfl
/-- xs != [] of texts -/
theorem op2_ne_nil {xs : List Str} (hs : ∀ x ∈ xs, PyData.strOk x = true) (h : Q (.bl (!xs.isEmpty)) ρ) : Op2 K (rNeD K) (.lst (strsD xs)) (.lst []) ρ Q := by
  refine op2_neD (p := .list (xs.map PyData.str)) (q := .list []) (by rw [toPy, toPys_strs]; rfl) (by rw [toPy, toPys]; rfl) (shaped_strs hs) (by decide +kernel) ?_
  have e : PyData.eqv (.list (xs.map PyData.str)) (.list []) = xs.isEmpty := by
    cases xs with
    | nil => simp [PyData.eqv, PyData.eqvAll]
    | cons x xs => simp [PyData.eqv, PyData.eqvAll]
  rw [e]; exact h
end
end DL

set_option Elab.async false
set_option linter.all false
set_option maxRecDepth 100000
namespace DL
open PySem PySem.Spec PyProof.Rows L2
section
variable {K : PySem.W.Frag} {te ta tb tc td ty tv : TE} {tt tu : TT} {ts : TA} {ρ : Env} {Q : D → Env → Prop} {E : EndD}
theorem notin_un {r : Sl} {i : Nat} {a : Addr} (nd : (ownA ρ).Nodup) (hi : ρ[i]? = some r) (m : a ∈ r.adr) : a ∉ ownA (ρ.set i .un) := fun z => by
  obtain ⟨r', hr, m'⟩ := List.mem_flatMap.mp z
  obtain ⟨j, hj⟩ := List.mem_iff_getElem?.mp hr
  by_cases e : j = i
  · subst e
    obtain ⟨hl, _⟩ := List.getElem?_eq_some_iff.mp hi
    rw [List.getElem?_set_self hl] at hj
    cases hj
    cases m'
  · rw [List.getElem?_set_ne (Ne.symm e)] at hj
    exact nodup_apart nd hi hj (Ne.symm e) m m'
theorem RE.forget {F G H : Hp} {σ : L2.St} {r : Sl} {i : Nat} {s : Option V} (R : RE K F G H σ ρ) (hi : ρ[i]? = some r) (hσ : σ[i]? = some s) : RE K F G H σ (ρ.set i .un) :=
  ⟨R.wd, R.sl.but hσ (r' := .un) trivial fun j s r n h1 h2 q => q, List.Nodup.sublist (ownA_setr (r' := .un) (List.nil_sublist _) hi) R.nd⟩
theorem RE.setAny {F G H : Hp} {σ : L2.St} {ρ : Env} {s : Option V} {r : Sl} (R : RE K F G H σ ρ) (hs : SlotOk K F G H s r) (h1 : r.adr.Nodup) (h2 : ∀ a ∈ r.adr, a ∉ ownA ρ) (i : Nat) : RE K F G H (σ.set i s) (ρ.set i r) :=
  ⟨R.wd, R.sl.set hs i, (ownA_set_own i R.nd h1 h2).1⟩
theorem two_nd {i : Nat} {k m : Addr} {xs ys : List Str} (nd : (ownA ρ).Nodup) (hi : ρ[i]? = some (.two k m xs ys)) : k ≠ m := by
  have key : ∀ {ρ : Env} {i : Nat} {r : Sl}, (ownA ρ).Nodup → ρ[i]? = some r → r.adr.Nodup := by
    intro ρ
    induction ρ with
    | nil => intro i r _ h; simp at h
    | cons r0 ρ ih =>
      intro i r nd h
      rw [ownA_cons] at nd
      obtain ⟨n1, n2, _⟩ := List.nodup_append.mp nd
      cases i with
      | zero => simp at h; subst h; exact n1
      | succ i => exact ih n2 (by simpa using h)
  have := key nd hi
  intro e
  have z : ([k, m] : List Addr).Nodup := this
  rw [e] at z
  simp at z
/-- known, more = names -/
theorem ws_unpack2 {i p q : Nat} {k m : Addr} {xs ys : List Str} (hi : ρ[i]? = some (.two k m xs ys)) (h : E.nx (((ρ.set i .un).set p (.own k (.lst (strsD xs)))).set q (.own m (.lst (strsD ys))))) :
    WS K (tAsg (tVar i) (gTup K 2 (gCons (gName p) (gCons (gName q) gNil)))) ρ E := fun F G H σ Dn R L => by
  obtain ⟨s, hs, ⟨t, rfl, ht⟩, hGk, hFk, hGm, hFm, hk, hm⟩ := R.sl.get hi
  have km := two_nd R.nd hi
  have R1 := R.forget hi hs
  have nk := notin_un R.nd hi (a := k) List.mem_cons_self
  have nm := notin_un R.nd hi (a := m) (List.mem_cons_of_mem _ (List.mem_singleton.mpr rfl))
  have R2 := R1.setOwn hGk hFk nk (d := .lst (strsD xs)) ⟨_, hk, reps_of_strs xs⟩ p
  have R3 := R2.setOwn hGm hFm (fun z => ?_) (d := .lst (strsD ys)) ⟨_, hm, reps_of_strs ys⟩ q
  · exact ⟨.ref t, hs, t, _, rfl, .inl (.inl (R.wd.g _ _ ht)), rfl, _, _, rfl, _, _, rfl, rfl, L.nx _ _ G H (Ex.refl G) R3 h⟩
  · rcases (ownA_set_own (r := .own k (.lst (strsD xs))) p R1.nd (show [k].Nodup from List.nodup_cons.mpr ⟨List.not_mem_nil, List.nodup_nil⟩) (fun a m => by rw [List.mem_singleton.mp m]; exact nk)).2 m z with z | z
    · exact km (List.mem_singleton.mp z).symm
    · exact nm z
/-- a def of the draws, data, a pair of lists, data -/
def spE (K : PySem.W.Frag) (J : List Str → List Str → Prop) (T : List D → (D → Prop) → Prop) : Sp := fun vs H Q _ => ∃ a t k m vr vb xs ys F G dr db Qd, vs = [.ref a, vr, .ref t, vb] ∧ Wd F G H ∧ (G a = none ∧ F a = none ∧ DrwR (H a)) ∧ Rep K G vr dr ∧ Rep K G vb db ∧
  (G t = some (.tup [.ref k, .ref m]) ∧ G k = none ∧ F k = none ∧ G m = none ∧ F m = none ∧ H k = some (.lst (xs.map V.str)) ∧ H m = some (.lst (ys.map V.str))) ∧ (k ≠ m ∧ a ≠ k ∧ a ≠ m) ∧ J xs ys ∧ T [dr, db] Qd ∧
  ∀ v d G' H' xs' ys', Ex G G' → Wd F G' H' → G' a = none → DrwR (H' a) → (G' k = none ∧ G' m = none ∧ H' k = some (.lst (xs'.map V.str)) ∧ H' m = some (.lst (ys'.map V.str))) → J xs' ys' → Rep K G' v d → Qd d → Q v H'
theorem ew_callE {J : List Str → List Str → Prop} {T : List D → (D → Prop) → Prop} {E : XK} {i0 i1 i2 i3 : Nat} {a k m : Addr} {xs ys : List Str} {dr db : D} (h0 : ρ[i0]? = some (.drw a)) (h1 : ρ[i1]? = some (.sh dr)) (h2 : ρ[i2]? = some (.two k m xs ys)) (h3 : ρ[i3]? = some (.sh db))
    (hj : J xs ys) (ht : T [dr, db] fun d => ∀ xs' ys', J xs' ys' → Q d (ρ.set i2 (.two k m xs' ys'))) : EvW K (tCall (spE K J T) [] E (tCons (tVar i0) (tCons (tVar i1) (tCons (tVar i2) (tCons (tVar i3) tNil))))) ρ Q := fun F G H σ R Q' kk => by
  obtain ⟨s0, e0, rfl, ga, fa, da⟩ := R.sl.get h0
  obtain ⟨s1, e1, v1, rfl, r1⟩ := R.sl.get h1
  obtain ⟨s2, e2, ⟨t, rfl, gt⟩, gk, fk, gm, fm, hk, hm⟩ := R.sl.get h2
  obtain ⟨s3, e3, v3, rfl, r3⟩ := R.sl.get h3
  refine ⟨.ref a, e0, v1, e1, .ref t, e2, v3, e3, ?_⟩
  have i02 : i0 ≠ i2 := fun z => by subst z; rw [h0] at h2; cases h2
  have ak : a ≠ k := fun z => nodup_apart R.nd h0 h2 i02 (List.mem_singleton.mpr rfl) (z ▸ List.mem_cons_self)
  have am : a ≠ m := fun z => nodup_apart R.nd h0 h2 i02 (List.mem_singleton.mpr rfl) (z ▸ List.mem_cons_of_mem _ (List.mem_singleton.mpr rfl))
  let as := (ownA ρ).filter fun b => decide (b ≠ a ∧ b ≠ k ∧ b ≠ m)
  have sub : ∀ b ∈ as, b ∈ ownA ρ := fun b z => (List.mem_filter.mp z).1
  have out : ∀ {b}, b ∈ as → b ≠ a ∧ b ≠ k ∧ b ≠ m := fun z => of_decide_eq_true (List.mem_filter.mp z).2
  have na : a ∉ as := fun z => (out z).1 rfl
  have nk : k ∉ as := fun z => (out z).2.1 rfl
  have nm : m ∉ as := fun z => (out z).2.2 rfl
  refine ⟨a, t, k, m, v1, v3, xs, ys, addF F H as, G, dr, db, _, rfl, R.wdF sub, ⟨ga, by rw [addF_out na]; exact fa, da⟩, r1, r3, ⟨gt, gk, by rw [addF_out nk]; exact fk, gm, by rw [addF_out nm]; exact fm, hk, hm⟩, ⟨two_nd R.nd h2, ak, am⟩, hj, ht, ?_⟩
  rintro v d G' H' xs' ys' e W gn dn ⟨g1, g2, g3, g4⟩ hj' hd qd
  have hsl := R.sl.but e2 (show SlotOk K F G' H' (some (.ref t)) (.two k m xs' ys') from ⟨⟨t, rfl, e _ _ gt⟩, g1, fk, g2, fm, g3, g4⟩) (fun j s r2 n z1 z2 z => ?_)
  · refine kk v d _ G' H' e ⟨R.wdB sub W, hsl, ?_⟩ hd (qd xs' ys' hj')
    exact List.Nodup.sublist (ownA_setr (r := .two k m xs ys) (r' := .two k m xs' ys') (show [k, m].Sublist [k, m] from List.Sublist.refl _) h2) R.nd
  · by_cases ej : j = i0
    · subst ej
      rw [h0] at z2; cases z2
      rw [e0] at z1; cases z1
      exact ⟨rfl, gn, fa, dn⟩
    · refine z.step e fun b mb => R.keepF W (List.mem_filter.mpr ⟨adr_mem z2 mb, ?_⟩) (adr_mem z2 mb)
      have c1 : b ≠ a := fun y => nodup_apart R.nd h0 z2 (Ne.symm ej) (List.mem_singleton.mpr rfl) (y ▸ mb)
      have c2 : b ≠ k := fun y => nodup_apart R.nd h2 z2 (Ne.symm n) (a := k) List.mem_cons_self (y ▸ mb)
      have c3 : b ≠ m := fun y => nodup_apart R.nd h2 z2 (Ne.symm n) (a := m) (List.mem_cons_of_mem _ (List.mem_singleton.mpr rfl)) (y ▸ mb)
      exact decide_eq_true ⟨c1, c2, c3⟩
theorem fn_E {P : Program} {w : World} {mg : Str → Option Value} {base : Heap} {x qual : Str} {params : Arguments} {body : List Stmt} {scope : Scope} {fd : FuncData} {N ps : List Str} {k n : Nat} {i j : Nat} {J : List Str → List Str → Prop} {T : List D → (D → Prop) → Prop}
    (F : FunD K x qual params body scope [] [] (He.ga K x) fd) (at_ : mg x = some (.ref (He.ga K x)))
    (bi : ∀ (kV doc pm : Value) (an : Option Addr) (cdv ct : Value) (us : List Value), us.length = ps.length → bindArgs (PySem.W.fnOf x qual params body scope .none kV doc pm an cdv ct) ⟨us, []⟩ = pure (ps.zip us))
    (S : FnScope N ps scope) (hN : N.length = n + 4) (hl : ps.length = 4)
    (hb : ∀ (cdv : Value) (A : Around) (outer : List PySem.Env) (s : Shared) (H : Hp) (E : XK), Room k (A.deeper (envOfC qual scope s.heap.objs.size (He.ga K x) cdv)) →
      ∃ t, PSs (cxOf CX0 P w K mg base N qual scope (He.ga K x) cdv A outer s H E).nox body t ∧ ∀ a p m xs ys dr db Qd, J xs ys → T [dr, db] Qd → WS K t (.drw a :: .sh dr :: .two p m xs ys :: .sh db :: List.replicate n .un) { nx := fun ρ => False, rt := fun d ρ => ρ[0]? = some (.drw a) ∧ (∃ xs' ys', J xs' ys' ∧ ρ[i]? = some (.own p (.lst (strsD xs'))) ∧ ρ[j]? = some (.own m (.lst (strsD ys')))) ∧ Qd d }) :
    FnB P w K mg base (k + 1) x ps (spE K J T) := by
  refine ⟨⟨fd, F.ok S (fun vs H Q E h => ?_) (fun cdv A outer s H vs Q E hr h => ?_), F.bindsN bi⟩, F.kp, at_⟩
  · obtain ⟨a, t, p, m, vr, vb, xs, ys, _, _, dr, db, Qd, rfl, _⟩ := h
    rw [hl]; rfl
  · obtain ⟨a, t0, p, m, vr, vb, xs, ys, F', G, dr, db, Qd, rfl, W, ⟨hG, hF, hD⟩, rr, rb, ⟨gt, gk, fk, gm, fm, hk, hm⟩, ⟨km, ak, am⟩, hj, tt, post⟩ := h
    obtain ⟨t, hd, hw⟩ := hb cdv A outer s H E hr
    refine ⟨t, PSs.nox hd, ?_⟩
    have es : L2.start N [.ref a, vr, .ref t0, vb] = some (.ref a) :: some vr :: some (.ref t0) :: some vb :: List.replicate n none := by
      unfold L2.start
      simp only [List.map_cons, List.map_nil, List.cons_append, List.nil_append, List.length_cons, List.length_nil]
      rw [hN]
      rfl
    have hrep : ∀ n : Nat, Slots K F' G H (List.replicate n none) (List.replicate n Sl.un) := by
      intro n
      induction n with
      | zero => exact trivial
      | succ n ih => exact ⟨trivial, ih⟩
    have R : RE K F' G H (L2.start N [.ref a, vr, .ref t0, vb]) (.drw a :: .sh dr :: .two p m xs ys :: .sh db :: List.replicate n .un) := by
      rw [es]
      refine ⟨W, ⟨⟨rfl, hG, hF, hD⟩, ⟨vr, rfl, rr⟩, ⟨⟨t0, rfl, gt⟩, gk, fk, gm, fm, hk, hm⟩, ⟨vb, rfl, rb⟩, hrep n⟩, ?_⟩
      show (a :: p :: m :: ownA (List.replicate n Sl.un)).Nodup
      rw [ownA_un]
      simp [ak, am, km]
    refine hw a p m xs ys dr db Qd hj tt F' G H _ _ R ⟨fun σ' ρ' G' H' e R' q => q.elim, fun v d σ' ρ' G' H' e R' hv q => ?_, fun σ' ρ' G' H' e R' q => q.elim, fun σ' ρ' G' H' e R' q => q.elim, fun p d σ' ρ' G' H' e R' _ _ _ _ q => q.elim, fun C f v d dx G' H' _ _ _ _ _ _ q => q.elim⟩
    obtain ⟨h0, ⟨xs', ys', hj', hi, hj2⟩, qd⟩ := q
    obtain ⟨_, _, _, z1, _, z2⟩ := R'.sl.get h0
    obtain ⟨_, _, _, y1, _, vs1, y2, y3⟩ := R'.sl.get hi
    obtain ⟨_, _, _, x1, _, vs2, x2, x3⟩ := R'.sl.get hj2
    rw [reps_strs y3] at y2
    rw [reps_strs x3] at x2
    exact post v d G' H' xs' ys' e R'.wd z1 z2 ⟨y1, x1, y2, x2⟩ hj' hv qd
/-- names, time, found = ([], [..]), n, {} -/
theorem ws_par3E {i j l : Nat} {n : Int} (hij : i ≠ j) (hil : i ≠ l) (hjl : j ≠ l) (h : EvN K tb ρ fun d ρ1 => ∃ ys, d = .lst (strsD ys) ∧ ∀ k m p, E.nx (((ρ1.set i (.two k m [] ys)).set j (.sh (.int n))).set l (.own p (.dk [])))) :
    WS K (tPar3 i j l (tCons (tTup (tCons (tLst tNil) (tCons tb tNil))) (tCons (tC (.int n)) (tCons tDNewK tNil)))) ρ E := fun F G H σ Dn R L => by
  refine ⟨by show 0 ≤ sizeLine; decide, fun k hk => ?_⟩
  have hFk : F k = none := R.wd.f.none hk
  have R1 : RE K (upd F k (.lst [])) G (upd H k (.lst [])) σ ρ := (R.alone hk).frm upd_same (R.wd.g.none hk) (ownA_fresh R hk) (fun _ z => nomatch z)
  refine h _ G _ σ R1 _ fun m d ρ1 G2 H2 e2 R2 hGm hFm hOm o q => ?_
  obtain ⟨ys, rfl, q⟩ := q
  obtain ⟨R3, h3, g3⟩ := R2.unfrm hFk
  have nk : k ∉ ownA ρ1 := R2.unfrm' hFk
  have mk : m ≠ k := fun z => by rw [z, upd_same] at hFm; cases hFm
  have hFm' : F m = none := by rw [upd_ne mk] at hFm; exact hFm
  obtain ⟨vs, hm, hr⟩ := o
  have hvs := reps_strs hr
  subst hvs
  refine ⟨by show 2 ≤ sizeLine; decide, fun t ht => ?_⟩
  have R4 := R3.new (o := .tup [.ref k, .ref m]) ht
  have kt : k ≠ t := ne_of_none h3 ht
  have mt : m ≠ t := ne_of_none hm ht
  refine fun p hp => ?_
  have R5 := R4.alone (o := .dK []) hp
  have kp : k ≠ p := ne_of_none (show upd H2 t (.tup [.ref k, .ref m]) k = _ by rw [upd_ne kt]; exact h3) hp
  have mp : m ≠ p := ne_of_none (show upd H2 t (.tup [.ref k, .ref m]) m = _ by rw [upd_ne mt]; exact hm) hp
  have R6 := R5.setAny (s := some (.ref t)) (r := .two k m [] ys) ⟨⟨t, rfl, upd_same⟩, by rw [upd_ne kt]; exact g3, hFk, by rw [upd_ne mt]; exact hGm, hFm', by rw [upd_ne kp, upd_ne kt]; exact h3, by rw [upd_ne mp, upd_ne mt]; exact hm⟩
    (show [k, m].Nodup by simp [Ne.symm mk]) (fun a z => by
      rcases List.mem_cons.mp z with z | z
      · rw [z]; exact nk
      · rw [List.mem_singleton.mp z]; exact hOm) i
  have R7 := R6.setSh (v := .int n) (d := .int n) (.int n) j
  have hGp := R4.wd.g.none hp
  have hFp := R4.wd.f.none hp
  have R8 := R7.setOwn hGp hFp (fun z => ?_) (d := .dk []) ⟨[], upd_same, rfl, .nil⟩ l
  · exact ⟨_, _, _, rfl, L.nx _ _ _ _ (e2.trans (Ex.new (R3.wd.g.none ht))) R8 (q k m p)⟩
  · have z1 := (ownA_set0 (r := .sh (.int n)) rfl j).subset z
    rcases (ownA_set_own (r := .two k m [] ys) i R5.nd (show [k, m].Nodup by simp [Ne.symm mk]) (fun a z => by
      rcases List.mem_cons.mp z with z | z
      · rw [z]; exact nk
      · rw [List.mem_singleton.mp z]; exact hOm)).2 p z1 with z2 | z2
    · rcases List.mem_cons.mp z2 with z | z
      · exact kp z.symm
      · exact mp (List.mem_singleton.mp z).symm
    · exact ownA_fresh R4 hp z2
/-- own + new -/
theorem en_catO {i : Nat} {a : Addr} {xs : List D} (hi : ρ[i]? = some (.own a (.lst xs))) (h : EvW K tb ρ fun y ρ2 => ∃ ys, y = .lst ys ∧ ρ2[i]? = some (.own a (.lst xs)) ∧ xs.length + ys.length ≤ 90000 ∧ Q (.lst (xs ++ ys)) ρ2) : EvN K (tOp rCat (tVar i) tb) ρ Q := fun F G H σ R Q' k => by
  obtain ⟨s, hs, rfl, _⟩ := R.sl.get hi
  refine ⟨.ref a, hs, h F G H σ R _ fun w y ρ2 G2 H2 e2 R2 hw q2 => ?_⟩
  obtain ⟨ys, rfl, hi2, hl, q⟩ := q2
  obtain ⟨_, _, _, _, _, vs, h1, h2⟩ := R2.sl.get hi2
  obtain ⟨b, ws, rfl, h3, h4⟩ := rep_lst hw
  refine ⟨a, b, vs, ws, rfl, rfl, h1, R2.wd.g _ _ h3, by rw [h2.length, h4.length]; exact big (by omega), fun p hp => ?_⟩
  obtain ⟨z1, z2, z3, z4, z5⟩ := en_of R2 hp (h2.append h4)
  exact k p _ ρ2 G2 _ e2 z1 z2 z3 z4 z5 q
/-- a new list of three ints is the draws -/
theorem ws_asgD {i : Nat} (h : EvN K te ρ fun d ρ1 => ∃ x y z : Int, d = .lst [.int x, .int y, .int z] ∧ ∀ p, E.nx (ρ1.set i (.drw p))) : WS K (tAsg te (gName i)) ρ E := fun F G H σ Dn R L =>
  h F G H σ R _ fun p d ρ1 G1 H1 e1 R1 hG hF hO o q => by
    obtain ⟨x, y, z, rfl, q⟩ := q
    obtain ⟨vs, h1, h2⟩ := o
    obtain ⟨v1, ws, rfl, a1, b1⟩ := h2.cons_inv
    obtain ⟨v2, v3, rfl, a2, a3⟩ := b1.two
    rw [rep_int a1, rep_int a2, rep_int a3] at h1
    exact L.nx _ _ G1 H1 e1 (R1.setAny (s := some (.ref p)) (r := .drw p) ⟨rfl, hG, hF, x, y, z, h1⟩ (List.nodup_cons.mpr ⟨List.not_mem_nil, List.nodup_nil⟩) (fun a m => by rw [List.mem_singleton.mp m]; exact hO) i) (q p)
end
end DL

set_option Elab.async false
set_option linter.all false
set_option maxRecDepth 100000
namespace DL
open PySem PySem.Spec PyProof.Rows L2
theorem kv_vals {κ : Type} {kvs : List (κ × V)} {vs : List (κ × Value)} (r : KV kvs vs) : Vals (kvs.map (·.2)) (vs.map (·.2)) := by
  unfold KV at r
  induction r with
  | nil => exact .nil
  | cons h t ih => exact .cons h.2 ih
section
variable {X : Cx} {o : Expr} {p pos apos mpos : Pos} {td : TE}
/-- list(o.values()) -/
def tListVals (td : TE) : TE := fun σ H Q => td σ H fun x H1 => ∃ (a : Addr) (kvs : List (Key × V)), x = V.ref a ∧ Rd H1 a (.dK kvs) ∧ ∀ p, H1 p = none → Q (.ref p) (upd H1 p (.lst (kvs.map (·.2))))
theorem pe_listVals (hc : X.calm = true) (hg : Gl X "list") (hm : X.mg "list" = none) (hd : PE X o td) (hbase : attributeBase o "values" X.env (eval o X.env) = eval o X.env := by rfl) (hline : (apos.endLine == mpos.line) = true := by rfl)
    (hse : starEach [Expr.Call (.Attribute o "values" apos) [] [] mpos] X.env = [(false, eval (Expr.Call (.Attribute o "values" apos) [] [] mpos) X.env)] := by rfl) :
    PE X (.Call (.Name "list" p) [.Call (.Attribute o "values" apos) [] [] mpos] [] pos) (tListVals td) := by
  refine ⟨fun pins s σ H Q I h => ?_⟩
  refine wpAny_Call_Name_kw (ld_blt I hg hm (u := .type "list") (by first | rfl | decide +kernel) ?_ (by first | decide +kernel | decide) (by first | decide +kernel | decide))
  rw [hse]
  refine PySem.callWith_type1 (wpAny_Call_method0_late hbase hline (thn (hd.run pins s σ H _ I h) fun v s1 ⟨x, H1, I1, r1, a, kvs, ex, ha, q⟩ => ?_))
  subst ex
  obtain rfl : v = Value.ref a := r1
  obtain ⟨hsz, hsys, vs, rel, dof⟩ := dk_rd I1.hok ha
  obtain ⟨ep, dat⟩ := dof.dictAt
  have dat' := dat
  obtain ⟨ob, es, ho, ex, hdat, hko, hpr, hnd⟩ := dat'
  refine ⟨"dict", "dict.values", F.plainAttrs_dict, F.slot_dict_values, F.type_dict_values, ⟨ob, ho, ex.1⟩, fun b e => ?_, Calls.callWith_builtin rfl (PySem.evalArgs_none ?_)⟩
  · cases e
    exact ⟨ob, ho, ex.2.1⟩
  refine call_meetsIn F.slot_dict_values ⟨ob, ho, ex.1⟩ F.entry_dict_values (F.args_dict_values_1 _) (meets_dict_values (mixKind X.prog X.w) a hsys) ⟨⟨vs, dof⟩, ?_⟩
  have k1 : ∀ b u, s1.heap.get? b = some u → (s1.heap.push { cls := .type "dict_values", data := .fields #[.ref a] }).get? b = some u := fun b u e => Heap.get?_push_of_some _ e
  have dat1 : (s1.heap.push { cls := .type "dict_values", data := .fields #[.ref a] }).DictAt (mixKind X.prog X.w) a vs ep := dat.keep k1
  have I2 : Inv X pins σ H1 { s1 with heap := s1.heap.push { cls := .type "dict_values", data := .fields #[.ref a] } } := I1.kept (t' := s1.toks) k1
  have hl : kvs.length = vs.length := KV.length rel
  refine PySem.W.kdl_call (PySem.W.kdl_values (knd := mixKind X.prog X.w) (r := s1.heap.objs.size) (d := a) (kvs := vs) (ep := ep)) (I1.ok.hd hc) ⟨⟨_, Heap.get?_push_size _ rfl, rfl, rfl⟩, dat1⟩ (by rw [← hl]; exact hsz) fun h' tk acc c' hk hD hacc => ?_
  have ea : acc.toList = vs.map (·.2) := by
    apply List.ext_getElem?
    intro j
    rw [List.getElem?_map]
    cases hj : acc.toList[j]? with
    | none =>
      have h1 := List.getElem?_eq_none_iff.mp hj
      rw [Array.length_toList, hacc.1] at h1
      rw [List.getElem?_eq_none h1]; rfl
    | some v =>
      obtain ⟨k, hk⟩ := hacc.2 j v (by rw [← Array.getElem?_toList]; exact hj)
      rw [hk]; rfl
  have rv : Vals (kvs.map (·.2)) acc.toList := by rw [ea]; exact kv_vals rel
  refine ⟨.ref _, upd H1 _ (.lst (kvs.map (·.2))), I2.laid (t' := tk) hk (Nat.le_refl _) (show ObjOk X.prog X.w _ _ _ (.lst (kvs.map (·.2))) from ⟨by rw [List.length_map]; exact hsz, acc.toList, c', rv, by rw [Array.toArray_toList]; exact hD⟩), rfl, q _ (I2.hok.fresh (Nat.le_refl _))⟩
end
section
variable {K : PySem.W.Frag} {td : TE} {ρ : Env} {Q : D → Env → Prop}
theorem en_listVals (h : EvW K td ρ fun x ρ1 => ∃ ps, x = .dk ps ∧ Q (.lst (ps.map (·.2))) ρ1) : EvN K (tListVals td) ρ Q := fun F G H σ R Q' k =>
  h F G H σ R _ fun v x ρ1 G1 H1 e1 R1 hv q => by
    obtain ⟨ps, rfl, q⟩ := q
    obtain ⟨a, kvs, rfl, h1, h2, h3⟩ := rep_dk hv
    refine ⟨a, kvs, rfl, R1.wd.g.rdx.1 _ _ trivial h1, fun p hp => ?_⟩
    obtain ⟨z1, z2, z3, z4, z5⟩ := en_of R1 hp h3
    exact k p _ ρ1 G1 _ e1 z1 z2 z3 z4 z5 q
end
end DL

set_option Elab.async false
set_option linter.all false
set_option maxRecDepth 100000
namespace DL
open PySem PySem.Spec PyProof.Rows L2
section
variable {K : PySem.W.Frag} {te ta tb tc td ty tv tk : TE} {tt tu : TT} {ts : TA} {ρ : Env} {Q : D → Env → Prop} {E : EndD}
theorem OwnR.rdx {G G' : Hp} {o : Option HO} {d : D} (h : OwnR K G o d) (x : RdX G G') : OwnR K G' o d := by
  cases d with
  | lst _ => obtain ⟨vs, e, r⟩ := h; exact ⟨vs, e, r.rdx x⟩
  | dk _ => obtain ⟨vs, e, k, r⟩ := h; exact ⟨vs, e, k, r.rdx x⟩
  | dt _ => obtain ⟨vs, e, k, r⟩ := h; exact ⟨vs, e, k, r.rdx x⟩
  | ins _ _ => obtain ⟨dx, vs, e, k, r⟩ := h; exact ⟨dx, vs, e, k, r.rdx x⟩
  | _ => exact h.elim
theorem SlotOk.rdx {F G G' H H' : Hp} {s : Option V} {r : Sl} (h : SlotOk K F G H s r) (e : RdX G G') (ht : ∀ t xs, G t = some (.tup xs) → G' t = some (.tup xs)) (hx : ∀ c c' q, G c = some (LamX.CodeO c' q) → G' c = some (LamX.CodeO c' q)) (k : ∀ a ∈ r.adr, H' a = H a ∧ G' a = none) : SlotOk K F G' H' s r := by
  cases r with
  | un => trivial
  | sh d => obtain ⟨v, h1, h2⟩ := h; exact ⟨v, h1, h2.rdx e⟩
  | own b d =>
    obtain ⟨h0, h1, h2, h3⟩ := h
    have kb := k b (List.mem_singleton.mpr rfl)
    exact ⟨h0, kb.2, h2, by rw [kb.1]; exact h3.rdx e⟩
  | drw b =>
    obtain ⟨h0, h1, h2, h3⟩ := h
    have kb := k b (List.mem_singleton.mpr rfl)
    exact ⟨h0, kb.2, h2, by rw [kb.1]; exact h3⟩
  | two p q xs ys =>
    obtain ⟨⟨t, h0, h00⟩, h1, h2, h3, h4, h5, h6⟩ := h
    have kp := k p List.mem_cons_self
    have kq := k q (List.mem_cons_of_mem _ (List.mem_singleton.mpr rfl))
    exact ⟨⟨t, h0, ht _ _ h00⟩, kp.2, h2, kq.2, h4, by rw [kp.1]; exact h5, by rw [kq.1]; exact h6⟩
  | tab d P q =>
    obtain ⟨⟨v, h0, h00⟩, h1, h2, ps, h3, h4, h5⟩ := h
    have kp := k P (List.mem_singleton.mpr rfl)
    exact ⟨⟨v, h0, h00.rdx e⟩, kp.2, h2, ps, by rw [kp.1]; exact h3, h4, fun pos cv hc => by
      obtain ⟨c, e1, e2⟩ := h5 pos cv hc
      exact ⟨c, e1, hx _ _ _ e2⟩⟩
/-- a shared dict locked and unlocked -/
theorem RE.relock {F G H : Hp} {σ : L2.St} {d : Addr} {u u' : HO} (R : RE K F G H σ ρ) (hd : G d = some u) (e : RdX G (upd G d u')) (hu : ∀ xs, u ≠ .tup xs) (hv : ∀ c q, u ≠ LamX.CodeO c q) : RE K F (upd G d u') (upd H d u') σ ρ := by
  refine ⟨⟨fun a o h => ?_, R.wd.g.upd, fun a o h => ?_, R.wd.ft⟩, R.sl.map (fun i s r _ hr q => q.rdx e (fun t xs z => ?_) (fun c c' q' z => ?_) fun a m => ?_), R.nd⟩
  · have ne : a ≠ d := fun z => by rw [z] at h; rw [R.wd.fg d o h] at hd; cases hd
    rw [upd_ne ne]; exact R.wd.f a o h
  · have ne : a ≠ d := fun z => by rw [z] at h; rw [R.wd.fg d o h] at hd; cases hd
    rw [upd_ne ne]; exact R.wd.fg a o h
  · have ne : t ≠ d := fun z' => by rw [z', hd] at z; cases z; exact hu _ rfl
    rw [upd_ne ne]; exact z
  · have ne : c ≠ d := fun z' => by rw [z', hd] at z; exact hv _ _ (Option.some.inj z)
    rw [upd_ne ne]; exact z
  · have ne : a ≠ d := fun z => by
      have := (q.own m).1
      rw [z, hd] at this; cases this
    rw [upd_ne ne, upd_ne ne]
    exact ⟨rfl, (q.own m).1⟩
theorem rdx_lock {G : Hp} {d : Addr} {od : Obj} {kvs : List (Key × V)} (hd : G d = some (.dK kvs)) : RdX G (upd G d (.frz od (.dK kvs))) := by
  refine ⟨fun a u hu h => ?_, fun a C dx fs h => ?_, fun a xs h => ?_, fun a xs h => ?_⟩
  · by_cases e : a = d
    · subst e
      rcases h with h | ⟨o, h⟩
      · rw [hd] at h; cases h; exact .inr ⟨od, upd_same⟩
      · rw [hd] at h; cases h
    · unfold Rd; rw [upd_ne e]; exact h
  · have ne : a ≠ d := fun z => by rw [z, hd] at h; cases h
    rw [upd_ne ne]; exact h
  · have ne : a ≠ d := fun z => by rw [z, hd] at h; cases h
    rw [upd_ne ne]; exact h
  · have ne : a ≠ d := fun z => by rw [z, hd] at h; cases h
    rw [upd_ne ne]; exact h
theorem rdx_unlock {G : Hp} {d : Addr} {od : Obj} {kvs : List (Key × V)} (hd : G d = some (.frz od (.dK kvs))) : RdX G (upd G d (.dK kvs)) := by
  refine ⟨fun a u hu h => ?_, fun a C dx fs h => ?_, fun a xs h => ?_, fun a xs h => ?_⟩
  · by_cases e : a = d
    · subst e
      rcases h with h | ⟨o, h⟩
      · rw [hd] at h; cases h; exact hu.elim
      · rw [hd] at h; cases h; exact .inl upd_same
    · unfold Rd; rw [upd_ne e]; exact h
  · have ne : a ≠ d := fun z => by rw [z, hd] at h; cases h
    rw [upd_ne ne]; exact h
  · have ne : a ≠ d := fun z => by rw [z, hd] at h; cases h
    rw [upd_ne ne]; exact h
  · have ne : a ≠ d := fun z => by rw [z, hd] at h; cases h
    rw [upd_ne ne]; exact h
theorem rep_of_kD {H : Hp} (k : Key) : Rep K H (kV k) (kD k) := by
  cases k with
  | inl i => exact .int i
  | inr x => exact .str x
theorem yl_keys {G : Hp} {d : Addr} {o : Obj} {kvs : List (Key × V)} {ps : List (Key × D)} (h : G d = some (.frz o (.dK kvs))) (hk : kvs.map (·.1) = ps.map (·.1)) : Yields K G (Itk d o kvs) (ps.map fun p => kD p.1) where
  go := fun F G2 H2 σ ρ i e R hi => ⟨R.wd.g _ _ (e _ _ h), by have := congrArg List.length hk; simp at this hi; omega⟩
  stop := fun F G2 H2 σ ρ e R => ⟨R.wd.g _ _ (e _ _ h), by have := congrArg List.length hk; simp at this ⊢; omega⟩
  yld := fun F G2 H2 σ ρ i x H3 e R hi y => by
    obtain ⟨rfl, k, v, hkv, rfl⟩ := y
    refine ⟨G2, kD k, Ex.refl _, R, ?_, rep_of_kD k⟩
    have z : (kvs.map (·.1))[i]? = some k := by rw [List.getElem?_map, hkv]; rfl
    rw [hk, List.getElem?_map] at z
    obtain ⟨p, hp, rfl⟩ := Option.map_eq_some_iff.mp z
    rw [List.getElem?_map, hp]; rfl
theorem for_core {J : It} {g : TG} {t : TS} {Dn : Ends} {F G H : Hp} {σ : L2.St} {ds : List D} (R1 : RE K F G H σ ρ) (Y : Yields K G J ds) (L : Links K F G E Dn) (P : Nat → Env → Prop) (p0 : P 0 ρ)
    (turn : ∀ i d ρ', ds[i]? = some d → P i ρ' → GW K g d ρ' fun ρ2 => WS K t ρ2 { E with nx := P (i + 1), ct := P (i + 1), bk := E.nx }) (fin : ∀ ρ', P ds.length ρ' → E.nx ρ') : tFor (fun σ H R => R J H) g t Dn σ H := by
  refine ⟨fun i m σ' H' => m + i = ds.length ∧ ∃ ρ' G', Ex G G' ∧ RE K F G' H' σ' ρ' ∧ P i ρ', ⟨ds.length, rfl, ρ, G, Ex.refl _, R1, p0⟩, ?_⟩
  rintro i m σ' H' ⟨hm, ρ', G', e', R', p⟩
  by_cases hi : i < ds.length
  · refine .inr ⟨Y.go F G' H' σ' ρ' i e' R' hi, fun σ2 H2 => ∃ ρ2 G2, Ex G G2 ∧ RE K F G2 H2 σ2 ρ2 ∧ P (i + 1) ρ2, fun σ2 H2 z => ⟨m - 1, by omega, by omega, z⟩, fun x H2 y => ?_⟩
    obtain ⟨G2, d, e2, R2, hd, hx⟩ := Y.yld F G' H' σ' ρ' i x H2 e' R' hi y
    refine turn i d ρ' hd p F G2 H2 σ' x R2 hx _ fun σ3 ρ3 G3 H3 e3 R3 w3 => ?_
    refine w3 F G3 H3 σ3 _ R3 ⟨fun σ4 ρ4 G4 H4 e4 R4 p4 => ⟨ρ4, G4, ((e'.trans e2).trans e3).trans e4, R4, p4⟩, fun v d σ4 ρ4 G4 H4 e4 R4 hv r4 => ?_, fun σ4 ρ4 G4 H4 e4 R4 p4 => ?_, fun σ4 ρ4 G4 H4 e4 R4 p4 => ⟨ρ4, G4, ((e'.trans e2).trans e3).trans e4, R4, p4⟩, fun p d σ4 ρ4 G4 H4 e4 R4 => L.ro p d σ4 ρ4 G4 H4 (((e'.trans e2).trans e3).trans e4) R4, fun C f v d dx G4 H4 e4 => L.xx C f v d dx G4 H4 (((e'.trans e2).trans e3).trans e4)⟩
    · exact L.rt v d σ4 ρ4 G4 H4 (((e'.trans e2).trans e3).trans e4) R4 hv r4
    · exact L.nx σ4 ρ4 G4 H4 (((e'.trans e2).trans e3).trans e4) R4 p4
  · have ei : i = ds.length := by omega
    subst ei
    exact .inl ⟨Y.stop F G' H' σ' ρ' e' R', L.nx σ' ρ' G' H' e' R' (fin ρ' p)⟩
theorem ps_or {X : Cx} {st : Stmt} {t u : TS} (h : PS X st t) (h' : PS X st u) : PS X st (fun D σ H => t D σ H ∨ u D σ H) :=
  ⟨fun pins s σ H D I q => q.elim (fun q => h.run pins s σ H D I q) fun q => h'.run pins s σ H D I q⟩
/-- for k in d, d a dict that is shared -/
theorem ws_forK {g : TG} {t : TS} {i : Nat} {ps : List (Key × D)} (hi : ρ[i]? = some (.sh (.dk ps))) (P : Nat → Env → Prop) (p0 : P 0 ρ)
    (turn : ∀ i d ρ', (ps.map fun p => kD p.1)[i]? = some d → P i ρ' → GW K g d ρ' fun ρ2 => WS K t ρ2 { nx := P (i + 1), rt := fun _ _ => False, bk := P ps.length, ct := P (i + 1) }) (fin : ∀ ρ', P ps.length ρ' → E.nx ρ') :
    WS K (fun D σ H => tLock (tFor (iKeys (tVar i)) g t) D σ H ∨ tFor (iKeys (tVar i)) g t D σ H) ρ E := fun F G H σ Dn R L => by
  obtain ⟨s, hs, v, rfl, hv⟩ := R.sl.get hi
  obtain ⟨a, kvs, rfl, hd, hk, hr⟩ := rep_dk hv
  have hlen : (ps.map fun p => kD p.1).length = ps.length := List.length_map ..
  rcases hd with hG | ⟨o, hG⟩
  · refine .inl ⟨a, .dK kvs, R.wd.g _ _ hG, trivial, fun od => ?_⟩
    have R1 := R.relock (u' := .frz od (.dK kvs)) hG (rdx_lock hG) (fun xs z => nomatch z) (fun c q z => by unfold LamX.CodeO at z; cases z)
    refine ⟨.ref a, hs, a, od, rfl, .inl ⟨kvs, upd_same, ?_⟩⟩
    refine for_core (E := { nx := P ps.length, rt := fun _ _ => False }) R1 (yl_keys upd_same hk) ⟨fun σ' ρ' G' H' e R' q => ?_, fun v d σ' ρ' G' H' e R' hv q => q.elim, fun σ' ρ' G' H' e R' q => q.elim, fun σ' ρ' G' H' e R' q => q.elim, fun p d σ' ρ' G' H' e R' _ _ _ _ q => q.elim, fun C f v d dx G' H' _ _ _ _ _ _ q => q.elim⟩ P p0 turn (by rw [hlen]; exact fun ρ' z => z)
    have hG' := e _ _ (upd_same (H := G) (a := a) (o := .frz od (.dK kvs)))
    refine ⟨R'.wd.g _ _ hG', L.nx σ' ρ' (upd G' a (.dK kvs)) _ (fun b u z => ?_) (R'.relock hG' (rdx_unlock hG') (fun xs z => nomatch z) (fun c q z => by unfold LamX.CodeO at z; cases z)) (fin ρ' q)⟩
    by_cases eb : b = a
    · subst eb; rw [hG] at z; cases z; exact upd_same
    · rw [upd_ne eb]; exact e b u (by rw [upd_ne eb]; exact z)
  · refine .inr ⟨.ref a, hs, a, o, rfl, .inl ⟨kvs, R.wd.g _ _ hG, ?_⟩⟩
    exact for_core (E := { nx := P ps.length, rt := fun _ _ => False }) R (yl_keys hG hk) ⟨fun σ' ρ' G' H' e R' q => L.nx σ' ρ' G' H' e R' (fin ρ' q), fun v d σ' ρ' G' H' e R' hv q => q.elim, fun σ' ρ' G' H' e R' q => q.elim, fun σ' ρ' G' H' e R' q => q.elim, fun p d σ' ρ' G' H' e R' _ _ _ _ q => q.elim, fun C f v d dx G' H' _ _ _ _ _ _ q => q.elim⟩ P p0 turn (by rw [hlen]; exact fun ρ' z => z)
theorem dput_le {κ : Type} [DecidableEq κ] (ps : List (κ × D)) (k : κ) (d : D) : (dput ps k d).length ≤ ps.length + 1 := by
  unfold dput
  split
  · rw [List.length_map]; omega
  · simp
/-- {tk: tv for g in wi if tt} -/
theorem en_dc {wi : TI} {g : TG} {vs : List Nat} (h : EvI K wi ρ fun ds ρ1 => ownFree ρ1 vs = true ∧ ds.length ≤ 90000 ∧ ∃ P : Nat → List (Key × D) → Prop, P 0 [] ∧
      (∀ i d acc, ds[i]? = some d → P i acc → GV K g vs d (wipeE ρ1 vs) fun ρ2 => EvT K tt ρ2 fun b ρ3 => ρ3 = ρ2 ∧ if b = true then EvW K tk ρ2 fun y ρ4 => ρ4 = ρ2 ∧ EvW K tv ρ2 fun z ρ5 => ρ5 = ρ2 ∧ ∃ k, y = kD k ∧ P (i + 1) (dput acc k z) else P (i + 1) acc) ∧
      ∀ acc, P ds.length acc → Q (.dk acc) ρ1) : EvN K (tDc wi g tt tk tv vs) ρ Q := fun F G H σ R Q' k =>
  h F G H σ R _ fun J ds ρ1 G1 H1 e1 R1 Y q => fun Dd hD => by
    obtain ⟨hv0, hlen, P, p0, turn, fin⟩ := q
    have hv := ownFree_at hv0
    have hF0 : F Dd = none := R1.wd.f.none hD
    have hO : Dd ∉ ownA ρ1 := ownA_fresh R1 hD
    refine ⟨fun i m H' => m + i = ds.length ∧ ∃ acc accV G', Ex G1 G' ∧ RE K F G' H' σ ρ1 ∧ G' Dd = none ∧ H' Dd = some (.dK accV) ∧ accV.map (·.1) = acc.map (·.1) ∧ Reps K G' (accV.map (·.2)) (acc.map (·.2)) ∧ acc.length ≤ i ∧ P i acc,
      ⟨ds.length, rfl, [], [], G1, Ex.refl _, R1.alone hD, R1.wd.g.none hD, upd_same, rfl, .nil, Nat.le_refl _, p0⟩, ?_⟩
    rintro i m H' ⟨hm, acc, accV, G', e', R', hG, hH, rk, ra, hl, p⟩
    have Rf := R'.frm hH hG hO (fun _ z => nomatch z)
    by_cases hi : i < ds.length
    · refine .inr ⟨Y.go _ G' H' σ ρ1 i e' Rf hi, fun H2 => ∃ acc accV G2, Ex G1 G2 ∧ RE K F G2 H2 σ ρ1 ∧ G2 Dd = none ∧ H2 Dd = some (.dK accV) ∧ accV.map (·.1) = acc.map (·.1) ∧ Reps K G2 (accV.map (·.2)) (acc.map (·.2)) ∧ acc.length ≤ i + 1 ∧ P (i + 1) acc, fun H2 z => ⟨m - 1, by omega, by omega, z⟩, fun x H2 y => ?_⟩
      obtain ⟨G2, d, e2, R2, hd, hx⟩ := Y.yld _ G' H' σ ρ1 i x H2 e' Rf hi y
      refine turn i d acc hd p _ G2 H2 _ x (R2.wipe vs) hx _ fun σ2 ρ2 l2 s2 R3 w3 => ?_
      refine ⟨?_, w3 _ G2 H2 σ2 R3 _ fun b ρ3 G4 H4 e4 R4 w4 => ?_⟩
      · have e0 : L2.wipe (L2.wipe σ vs) vs = L2.wipe σ vs := wipe_eq (L2.wipe_length σ vs) fun i hi => wipe_at hi
        rw [wipe_eq l2 fun i hi => (s2 i hi).1, e0]
      obtain ⟨rfl, w4⟩ := w4
      have back : ∀ {G5 H5 : Hp}, Ex G2 G5 → RE K (upd F Dd (.dK accV)) G5 H5 σ2 ρ3 → RE K F G5 H5 σ ρ1 ∧ H5 Dd = some (.dK accV) ∧ G5 Dd = none := fun {G5 H5} e5 R5 => by
        obtain ⟨R6, h6, g6⟩ := R5.unfrm hF0
        refine ⟨⟨R6.wd, Slots.join (e2.trans e5) R'.sl R6.sl (fun j r hr ho => ?_), R'.nd⟩, h6, g6⟩
        have hj := hv j r hr ho
        rw [(s2 j hj).1, (s2 j hj).2, wipe_at hj, wipeE_at hj]
        exact ⟨hr, rfl⟩
      cases b with
      | true =>
        refine w4 _ G4 H4 σ2 R4 _ fun v yv ρ5 G5 H5 e5 R5 hvy w5 => ?_
        obtain ⟨rfl, w5⟩ := w5
        refine w5 _ G5 H5 σ2 R5 _ fun v2 zv ρ6 G6 H6 e6 R6 hvz w6 => ?_
        obtain ⟨rfl, kk, rfl, w6⟩ := w6
        obtain ⟨R7, h7, g7⟩ := back ((e4.trans e5).trans e6) R6
        have e9 : Ex G' G6 := ((e2.trans e4).trans e5).trans e6
        obtain ⟨z1, z2⟩ := put_rel (k := kk) rk (ra.mono e9) hvz
        have hll : accV.length = acc.length := by have := congrArg List.length rk; simpa using this
        refine ⟨accV, kk, rep_kD hvy, h7, by rw [hll]; exact bigl (by omega), dput acc kk zv, putK accV kk v2, G6, e'.trans e9, R7.aloneU g7 hF0 hO, g7, upd_same, z1, z2, by have := dput_le acc kk zv; omega, w6⟩
      | false =>
        obtain ⟨R6, h6, g6⟩ := back e4 R4
        exact ⟨acc, accV, G4, (e'.trans e2).trans e4, R6, g6, h6, rk, ra.mono (e2.trans e4), by omega, w4⟩
    · have ei : i = ds.length := by omega
      subst ei
      exact .inl ⟨Y.stop _ G' H' σ ρ1 e' R', k Dd (.dk acc) ρ1 G' H' (e1.trans e') R' hG hF0 hO ⟨accV, hH, rk, ra⟩ (fin acc p)⟩
/-! ### instances in the making -/
def putD (f : Str) (d : D) : List (Str × D) → List (Str × D)
  | [] => [(f, d)]
  | (g, x) :: r => if g = f then (g, d) :: r else (g, x) :: putD f d r
theorem putF_rel {H : Hp} {f : Str} {v : V} {d : D} (hv : Rep K H v d) : ∀ {fs : List (Str × V)} {ps : List (Str × D)}, fs.map (·.1) = ps.map (·.1) → Reps K H (fs.map (·.2)) (ps.map (·.2)) →
    (putF f v fs).map (·.1) = (putD f d ps).map (·.1) ∧ Reps K H ((putF f v fs).map (·.2)) ((putD f d ps).map (·.2))
  | [], [], _, _ => ⟨rfl, .cons hv .nil⟩
  | [], _ :: _, e, _ => by simp at e
  | _ :: _, [], e, _ => by simp at e
  | (g, x) :: fs, (g', y) :: ps, e, r => by
    simp only [List.map_cons, List.cons.injEq] at e
    obtain ⟨rfl, e⟩ := e
    cases r with
    | cons r1 r2 =>
      unfold putF putD
      by_cases h : g = f
      · rw [if_pos h, if_pos h]
        simp only [List.map_cons]
        exact ⟨by rw [e], .cons hv r2⟩
      · rw [if_neg h, if_neg h]
        obtain ⟨i1, i2⟩ := putF_rel hv e r2
        simp only [List.map_cons]
        exact ⟨by rw [i1], .cons r1 i2⟩
/-- self.f = v -/
theorem ws_fldset {i : Nat} {a : Addr} {C f : Str} (hc : Cls K (He.ga K C)) (hn : NoAttr K (He.ga K C) f) (h : EvW K tv ρ fun d ρ1 => ∃ ps, ρ1[i]? = some (.own a (.ins C ps)) ∧ ps.length < 1000 ∧ E.nx (ρ1.set i (.own a (.ins C (putD f d ps))))) : WS K (sFld K (tVar i) tv f) ρ E := fun F G H σ Dn R L =>
  h F G H σ R _ fun v d ρ1 G1 H1 e1 R1 hv q => by
    obtain ⟨ps, hi, hl, q⟩ := q
    obtain ⟨s, hs, rfl, hG, hF, dx, fs, hd, hk, hr⟩ := R1.sl.get hi
    obtain ⟨z1, z2⟩ := putF_rel (f := f) hv hk hr
    have hll : fs.length = ps.length := by have := congrArg List.length hk; simpa using this
    exact ⟨.ref a, hs, a, _, dx, fs, rfl, hd, hc, hn, by omega, L.nx _ _ G1 _ e1 (R1.mut (r' := .own a (.ins C (putD f d ps))) hi (List.mem_singleton.mpr rfl) (List.Sublist.refl _) hs ⟨rfl, hG, hF, dx, _, upd_same, z1, z2⟩) q⟩
def spI (K : PySem.W.Frag) (C : Str) (T : List D → (D → Prop) → Prop) : Sp := fun vs H Q _ => ∃ a dx ws F G ds Qd, vs = .ref a :: ws ∧ Wd F G H ∧ G a = none ∧ F a = none ∧ H a = some (.ins (He.ga K C) dx []) ∧ Reps K G ws ds ∧ T ds Qd ∧
  ∀ ps G' H', Ex G G' → Wd F G' H' → G' a = none → OwnR K G' (H' a) (.ins C ps) → Qd (.ins C ps) → Q .non H'
structure FnI (P : Program) (w : World) (K : PySem.W.Frag) (mg : Str → Option Value) (base : Heap) (k : Nat) (C : Str) (ps : List Str) (sp : Sp) : Prop where
  ex : ∃ f fd, FnOk P w K mg base CX0 k f fd ps sp ∧ Binds K fd ps [] ∧ Mk K (He.ga K C) f
  at_ : mg C = some (.ref (He.ga K C))
theorem pe_makeF {X : Cx} {k : Nat} {x : Str} {ps : List Str} {sp : Sp} {e : Expr} {es : List Expr} {t : TA} {p pos : Pos} (F : FnI X.prog X.w X.K X.mg X.base k x ps sp) (hr : Room (k + 1) X.A) (ha : PA X (e :: es) t) (hg : Gl X x := by rfl)
    (he : starEach (e :: es) X.env = (false, eval e X.env) :: starEach es X.env := by rfl) (hpl : (backTo pos (starEach es X.env)).any (·.1) = false := by rfl) (hd : (x == ("__debug__" : Str)) = false := by decide) : PE X (.Call (.Name x p) (e :: es) [] pos) (tMake (He.ga X.K x) sp [] E0 t) := by
  obtain ⟨f, fd, h1, h2, h3⟩ := F.ex
  exact pe_make h3 h1 hr hg F.at_ h2 .nil pass0 ha hd he hpl
theorem ew_make {C : Str} {T : List D → (D → Prop) → Prop} {E : XK} (h : EvA K ts ρ fun ds ρ1 => T ds fun d => Q d ρ1) : EvW K (tMake (He.ga K C) (spI K C T) [] E ts) ρ Q := fun F G H σ R Q' k =>
  h F G H σ R _ fun vs ds ρ1 G1 H1 e1 R1 hv q => fun x dx hx hdx hne => by
    have hx2 : upd H1 dx (.own x) x = none := by rw [upd_ne (Ne.symm hne)]; exact hx
    have W := R1.wdF (as := ownA ρ1) (fun _ m => m)
    have ex2 : Ex H1 (upd (upd H1 dx (.own x)) x (.ins (He.ga K C) dx [])) := (Ex.new hdx).trans (Ex.new hx2)
    have nx := ownA_fresh R1 hx
    have hFx := R1.wd.f.none hx
    refine ⟨x, dx, vs, addF F H1 (ownA ρ1), G1, ds, _, by rw [List.append_nil], ⟨W.f.trans ex2, W.g.trans ex2, W.fg, W.ft⟩, R1.wd.g.none hx, by rw [addF_out nx]; exact hFx, upd_same, hv, q, fun ps G' H' e W' hG o qd => ⟨rfl, ?_⟩⟩
    have R2 := R1.back W' e
    obtain ⟨u, hu, _⟩ := o.some
    exact k (.ref x) (.ins C ps) ρ1 (upd G' x u) H' ((e1.trans e).trans (Ex.new hG)) (R2.share hu hG hFx nx) (ownR_rep o (by rw [upd_same, hu]) (Ex.new hG)) qd
theorem fn_I {P : Program} {w : World} {mg : Str → Option Value} {base : Heap} {x qual C : Str} {params : Arguments} {body : List Stmt} {scope : Scope} {f : Addr} {fd : FuncData} {N ps : List Str} {k : Nat} {T : List D → (D → Prop) → Prop}
    (F : FunD K x qual params body scope [] [] f fd) (M : Mk K (He.ga K C) f) (at_ : mg C = some (.ref (He.ga K C)))
    (bi : ∀ (kV doc pm : Value) (an : Option Addr) (cdv ct : Value) (us : List Value), us.length = ps.length → bindArgs (PySem.W.fnOf x qual params body scope .none kV doc pm an cdv ct) ⟨us, []⟩ = pure (ps.zip us))
    (S : FnScope N ps scope) (hN : N ≠ []) (hl : ∀ ds Qd, T ds Qd → ds.length + 1 = ps.length)
    (hb : ∀ (cdv : Value) (A : Around) (outer : List PySem.Env) (s : Shared) (H : Hp) (E : XK), Room k (A.deeper (envOfC qual scope s.heap.objs.size f cdv)) →
      ∃ t, PSs (cxOf CX0 P w K mg base N qual scope f cdv A outer s H E).nox body t ∧ ∀ a ds Qd, T ds Qd → WS K t (Sl.own a (.ins C []) :: (ds.map Sl.sh ++ List.replicate (N.length - 1 - ds.length) Sl.un)) { nx := fun ρ => ∃ ps, ρ[0]? = some (.own a (.ins C ps)) ∧ Qd (.ins C ps), rt := fun d ρ => False }) :
    FnI P w K mg base (k + 1) C ps (spI K C T) := by
  refine ⟨⟨f, fd, F.ok S (fun vs H Q E h => ?_) (fun cdv A outer s H vs Q E hr h => ?_), F.bindsN bi, M⟩, at_⟩
  · obtain ⟨a, dx, ws, _, _, ds, Qd, rfl, _, _, _, _, r, t, _⟩ := h
    rw [List.length_cons, r.length]; exact hl ds Qd t
  · obtain ⟨a, dx, ws, F', G, ds, Qd, rfl, W, hG, hF, hD, r, tt, post⟩ := h
    obtain ⟨t, hd, hw⟩ := hb cdv A outer s H E hr
    refine ⟨t, PSs.nox hd, ?_⟩
    have es : L2.start N (.ref a :: ws) = some (.ref a) :: (ws.map some ++ List.replicate (N.length - 1 - ws.length) none) := by
      unfold L2.start
      simp only [List.map_cons, List.cons_append, List.length_cons]
      rw [show N.length - (ws.length + 1) = N.length - 1 - ws.length by omega]
    have R : RE K F' G H (L2.start N (.ref a :: ws)) (Sl.own a (.ins C []) :: (ds.map Sl.sh ++ List.replicate (N.length - 1 - ds.length) Sl.un)) := by
      rw [es]
      refine ⟨W, ⟨⟨rfl, hG, hF, dx, [], hD, rfl, .nil⟩, by rw [r.length]; exact slots_start _ r⟩, ?_⟩
      show (a :: ownA (ds.map Sl.sh ++ List.replicate (N.length - 1 - ds.length) Sl.un)).Nodup
      rw [own_start]
      simp
    refine hw a ds Qd tt F' G H _ _ R ⟨fun σ' ρ' G' H' e R' q => ?_, fun v d σ' ρ' G' H' e R' hv q => q.elim, fun σ' ρ' G' H' e R' q => q.elim, fun σ' ρ' G' H' e R' q => q.elim, fun p d σ' ρ' G' H' e R' _ _ _ _ q => q.elim, fun C f v d dx G' H' _ _ _ _ _ _ q => q.elim⟩
    obtain ⟨ps', h0, qd⟩ := q
    obtain ⟨_, _, _, z1, _, z2⟩ := R'.sl.get h0
    exact post ps' G' H' e R'.wd z1 z2 qd
end
end DL

set_option Elab.async false
set_option linter.all false
set_option maxRecDepth 100000
set_option maxHeartbeats 2000000
/-! own exceptions whose __init__ says super().__init__(x); self.f = x -/
namespace EXS
open PySem PySem.W PySem.Calls PySem.Spec PyProof.Rows
/-- what is asked of the scope of such an __init__ -/
structure ScOk (sc : Scope) (x : Str) : Prop where
  sup : sc.names.lookup ("super" : Str) = some .globalImplicit
  cls : sc.names.lookup ("__class__" : Str) = some .free
  slf : sc.names.lookup ("self" : Str) = some .local
  arg : sc.names.lookup x = some .local
  nc : ∀ y ∈ sc.names, y.2 ≠ .cell
  kind : sc.kind = .function
  co : sc.isCoroutine = false
  gen : sc.isGenerator = false
  ne : x ≠ "self"
  nd : (x == ("__debug__" : Str)) = false
abbrev supBody (x f : Str) (p0 p1 p2 p3 p4 p5 p6 p7 p8 p9 : Pos) : List Stmt :=
  [.Expr (.Call (.Attribute (.Call (.Name "super" p0) [] [] p1) "__init__" p2) [.Name x p3] [] p4) p5, .Assign [.Attribute (.Name "self" p6) f p7] (.Name x p8) p9]
/-- two parameters, self and x, are bound -/
def BindX (x : Str) : Prop := ∀ (qual : Str) (a1 a2 : Option Expr) (q1 q2 : Pos) (body : List Stmt) (scope : Scope) (kV doc pm : Value) (an : Option Addr) (cdv ct : Value) (cc : Addr) (a b : Value),
  bindArgs (ksFn "__init__" qual ⟨[], [⟨"self", a1, q1⟩, ⟨x, a2, q2⟩], none, [], [], none, []⟩ body scope .none kV doc pm an cdv ct cc) ⟨[a, b], []⟩ = pure ([("self", a), (x, b)] : List (Str × Value))
theorem bind_index : BindX "index" := fun _ _ _ _ _ _ _ _ _ _ _ _ _ _ _ _ => rfl
structure SupC (K : Frag) (prog : Program) (C fI : Addr) (x f : Str) : Prop where
  oex : L2.OexC K C
  init : findIn K (.ref C) "__init__" = some (some (.ref fI))
  ty : typeIn K (.ref fI) = some (.type "function")
  no : findIn K (.ref C) f = some none
  fn : ∃ (oc : Value) (od : Option Addr) (osl : Array (Option Value)) (qual : Str) (scope : Scope) (kV doc pm : Value) (an : Option Addr) (cda cc : Addr) (ct : Value) (a1 a2 : Option Expr) (q1 q2 p0 p1 p2 p3 p4 p5 p6 p7 p8 p9 : Pos),
    K.lookup fI = some ⟨oc, od, .func (ksFn "__init__" qual ⟨[], [⟨"self", a1, q1⟩, ⟨x, a2, q2⟩], none, [], [], none, []⟩ (supBody x f p0 p1 p2 p3 p4 p5 p6 p7 p8 p9) scope .none kV doc pm an (.ref cda) ct cc), osl⟩ ∧
    codeIn K (.ref cda) qual = true ∧ (∃ ccl cdd vs ccs file tf, K.lookup cda = some ⟨ccl, cdd, .fields vs, ccs⟩ ∧ vs[2]? = some (.str file tf) ∧ ((prog.main.file : Str) == file) = true) ∧
    (∃ cl cld csl, K.lookup cc = some ⟨cl, cld, .cell (some (.ref C)), csl⟩) ∧ ScOk scope x ∧ (p2.endLine == p4.line) = true
  bi : BindX x
  own : mroIn K C (.ref C) = some true
  top : (prog.main.scope.names.lookup ("super" : Str)).isSome = false
  sup : ks_superIn K C C "__init__" = some (some (.builtin "ValueError.__init__"))
  sub : subIn K (.ref C) (.type "ValueError") = some true
  st : nsIn K cStatics "thirdparty.any" = some none
section
variable {prog : Program} {w : World} {A : Around} {R : Result → Shared → Prop} {hp : Heap} {g : Array GenState} {d : Drawn} {t : Nat} {os : OsState} {K : Frag} {C fI e t0 : Addr} {x f : Str} {u : Value} {mg mb : Str → Option Value}
theorem call_sup {E : Value → Shared → Prop} {nm q : Str} {N : Addr} {bs bm : List Value} {hdct : Bool} {sn : List Str} {sub : List Value} {ab : Bool} {col : Option Bool} {dd : Option Addr} {k0 k1 k2 k3 k5 : Option Value} {v : Addr} {rest : List Value} {Q : Value → Shared → Prop}
    (hC : hp.get? C = some (excClassObj nm q C N bs bm hdct sn sub ab col dd k0 k1 k2 k3 k5 "ValueError.__new__")) (he : hp.get? e = some (HandSPX.excO C t0)) (hv : hp.get? v = some (kxs_mw "ValueError.__init__" e)) (hz : rest.length ≤ sizeLine)
    (hq : ∀ h' t1, (∀ b o, b ≠ e → hp.get? b = some o → h'.get? b = some o) → h'.get? e = some (HandSPX.excO C t1) → Q .none ⟨h', g, d, t, os⟩) : wpAny (model prog w) A (call (.ref v) rest) Q E ⟨hp, g, d, t, os⟩ := by
  refine wpAny_call (codeAny_of_tree ?_)
  show wpAny _ A.in1 (callAny (.ref v) ⟨rest, []⟩) _ _ _
  simp only [callAny]
  refine wpAny_bind (wpAny_load hv ?_)
  simp only [kxs_mw, show (Value.type "method-wrapper" == Value.type "method" || Value.type "method-wrapper" == Value.type "builtin_function_or_method" || Value.type "method-wrapper" == Value.type "method-wrapper") = true by decide, if_true]
  refine KFB.if_so (by decide) ?_
  refine wpAny_bind (check_bound_init F.excBase_ValueError.toExcCallFacts hC he rfl ?_)
  refine wpAny_bind (wpAny_pure (wpAny_pure ?_))
  refine ⟨plainId_quiet F.excBase_ValueError.init.plain _, codeAny_builtin F.excBase_ValueError.initEntry ?_⟩
  exact exc_init_tree (cls := .ref C) (t0 := t0) (dv := none) (c2 := .none) (c3 := .none) (b4 := .bool false) he hz fun h' k e' _ => hq h' _ k e'
theorem wpAt_method1 {M : Model} {c : Code} {E : Value → Shared → Prop} {s : Shared} {env : Env} {o ex : Expr} {name : Str} {apos pos : Pos} {Q : Value → Shared → Prop} (hline : (apos.endLine == pos.line) = true) (hst : starEach [ex] env = [(false, eval ex env)])
    (h : PySem.wpAt M A c (attributeBase o name env (eval o env)) (fun ov s₁ => ∀ pl, wpAny M A (getMethod ov name pl) (fun fx s₂ => wpAny M A (callWith pos fx.1 fx.2 (backTo pos (starEach [ex] env)) []) Q E s₂) E s₁) E s) :
    PySem.wpAt M A c (eval (.Call (.Attribute o name apos) [ex] [] pos) env) Q E s := by
  rw [arm_eval_Call]
  refine PySem.wpAt_bind (PySem.wpAt_mono h (fun ov s₁ h₁ => PySem.wpAt_of_wpAny (wpAny_bind (wpAny_standAt ?_))) fun _ _ e => e)
  have hform : methodCallForm ([ex].length + ([] : List Keyword).length) (backTo pos (starEach [ex] env)) (backToKw pos (keywordEach [] env)) = true := by rw [hst]; rfl
  have hpos : methodCallPos true o env apos pos = pure pos := by unfold methodCallPos; simp [hline]
  unfold methodCall
  rw [hform]
  refine wpAny_bind (wpAny_holding (wpAny_mono (h₁ _) (fun fx s₂ h₂ => ?_) fun _ _ e => e))
  exact wpAny_bind (wpAny_of_eq hpos h₂)
theorem init_sup (S : SupC K prog C fI x f) (X : K.In hp) (lim : hp.NoLimit) (hg : hp.Ns mainGlobals mg) (hb : hp.Ns builtinsNs mb) (hbo : mb "super" = bootBuiltins "super") (hsu : mg "super" = none) (hroom : A.depth < recursionLimit)
    (he : hp.get? e = some (HandSPX.excO C t0)) (hKe : K.lookup e = none)
    (hq : ∀ h' tk' dx t1, (∀ b o, b ≠ e → hp.get? b = some o → h'.get? b = some o) → hp.objs.size ≤ dx → dx ≠ e → h'.get? e = some ({ cls := .ref C, dict := some dx, data := .fields #[.ref t1, .none, .none, .none, .bool false, .none] } : Obj) →
      h'.Ns1 dx (fun y => if y = f then some u else none) → R (.ok (.ret .none)) ⟨h', g, d, tk', os⟩) :
    codeAny (model prog w) A (.call (.ref fI) ⟨[.ref e, u], []⟩) R ⟨hp, g, d, t, os⟩ := by
  obtain ⟨oc, od, osl, qual, scope, kV, doc, pm, an, cda, cc, ct, a1, a2, q1, q2, p0, p1, p2, p3, p4, p5, p6, p7, p8, p9, lk, hcd, ⟨ccl, cdd, vs, ccs, file, tf, hcode, hvs, hfile⟩, ⟨cl, cld, csl, hcell⟩, sc, hline⟩ := S.fn
  obtain ⟨nm, q, N, bs, bm, sn, sub, ab, col, dd, k0, k1, k2, k3, k5, hC, hbm⟩ := S.oex.cls
  have hcl : clsIn K C = some { name := nm, bases := bs, mro := .ref C :: bm, ns := N, qualname := q, hasDict := true, slotNames := sn, subclasses := sub, abstract := ab, collection := col, hasDel := false } := by unfold clsIn; rw [hC] <;> rfl
  refine ks_codeAny_call_defAt (fd := ksFn "__init__" qual ⟨[], [⟨"self", a1, q1⟩, ⟨x, a2, q2⟩], none, [], [], none, []⟩ (supBody x f p0 p1 p2 p3 p4 p5 p6 p7 p8 p9) scope .none kV doc pm an (.ref cda) ct cc) (body := supBody x f p0 p1 p2 p3 p4 p5 p6 p7 p8 p9) (binds := [("self", .ref e), (x, u)])
    hroom (X _ _ lk) rfl lim (codeRec_of X hcd) rfl (.of_eq (S.bi _ _ _ _ _ _ _ _ _ _ _ _ _ _ _ _)) sc.nc (fun y hy => ?_) (fun h1 hns hk1 => ?_) sc.co sc.gen sc.kind
  · simp only [List.mem_cons, List.not_mem_nil, or_false] at hy
    rcases hy with rfl | rfl
    · exact sc.slf
    · exact sc.arg
  have X1 : K.In h1 := X.keeps hk1
  have vself : ([("self", Value.ref e), (x, u)] : List (Str × Value)).reverse.lookup ("self" : Str) = some (Value.ref e) := by
    show List.lookup ("self" : Str) [(x, u), ("self", .ref e)] = _
    rw [List.lookup_cons, show (("self" : Str) == x) = false by simpa using Ne.symm sc.ne]
    rfl
  have varg : ([("self", Value.ref e), (x, u)] : List (Str × Value)).reverse.lookup x = some u := by
    show List.lookup x [(x, u), ("self", .ref e)] = _
    rw [List.lookup_cons, beq_self_eq_true]
  have he1 := hk1 _ _ he
  obtain ⟨oD, hD1, hD2⟩ : ∃ oD, h1.get? C = some oD ∧ ∃ cd, oD.data = .cls cd := ⟨_, X1 _ _ hC, _, rfl⟩
  obtain ⟨cdD, hD2⟩ := hD2
  refine ks_wpAt_execs_cons (ks_wpAt_Expr_any (wpAt_method1 hline rfl ?_) (by show ((scope.kind == .module) && _) = false; rw [sc.kind]; rfl))
  refine ks_wpAt_super_base (fd := ksFn "__init__" qual ⟨[], [⟨"self", a1, q1⟩, ⟨x, a2, q2⟩], none, [], [], none, []⟩ (supBody x f p0 p1 p2 p3 p4 p5 p6 p7 p8 p9) scope .none kV doc pm an (.ref cda) ct cc) sc.sup sc.cls (by decide +kernel) rfl (X1 _ _ lk) rfl rfl rfl (X1 _ _ hcode) rfl hvs hfile S.top ?_
  refine ks_loadName_global sc.kind sc.sup (loadGlobal_builtin (hg.keeps hk1) hsu (hb.keeps hk1) (hbo.trans (by rfl)) ⟨rfl, ?_⟩)
  refine wpAny_loadName_free sc.kind sc.cls rfl ⟨_, X1 _ _ hcell, rfl⟩ ?_
  refine wpAny_loadName_local sc.kind sc.slf hns vself ?_
  refine ks_wpAny_isType_cls hD1 hD2 ⟨rfl, ?_⟩
  refine ks_wpAny_call_super hD1 hD2 he1 rfl (fun c z => by cases z) (looks_mroIn X1 S.own) (fun h2 hso k2 pl => ?_)
  have X2 : K.In h2 := X1.keeps k2
  have he2 := k2 _ _ he1
  have I2 : InstAt h2 e (HandSPX.excO C t0) C none := ⟨he2, rfl, rfl, trivial⟩
  have hsup : alongIn K "__init__" (((Value.ref C :: bm).dropWhile (· != .ref C)).drop 1) = some (some (.builtin "ValueError.__init__")) := by
    have z := S.sup
    unfold ks_superIn at z
    rw [hcl] at z
    exact z
  refine kxs_getMethod kxs_ValueError hso (looks_opaque X2 S.st) (l₀ := .ref C :: bm) (fun A Q E s k q => wpAny_bind ((looks_clsIn X2 hcl) A _ E s k (wpAny_pure q))) rfl X2 hsup (I2.type.andThen (looks_subIn X2 S.sub)) (ks_ne X2 I2 hcl) (by decide +kernel) ?_
  have kp : ∀ b o, h2.get? b = some o → (h2.push (kxs_mw "ValueError.__init__" e)).get? b = some o := fun b o z => Heap.get?_push_of_some _ z
  have k3 : ∀ b o, h1.get? b = some o → (h2.push (kxs_mw "ValueError.__init__" e)).get? b = some o := fun b o z => kp _ _ (k2 _ _ z)
  refine kxs_callWith (i := "ValueError.__init__") (x := e) rfl (evalArgs_plain (spliced_cons (wpAny_Name (wpAny_loadName_local sc.kind sc.arg (hns.keeps k3) varg (spliced_nil ?_)) sc.nd)))
  refine ⟨Heap.get?_push_size _ rfl, ?_⟩
  refine call_sup (X1.keeps k3 _ _ hC) (k3 _ _ he1) (Heap.get?_push_size _ rfl) (by show 1 ≤ sizeLine; decide) fun h4 t1 k4 he4 => ?_
  have ne1 : hp.objs.size ≠ e := fun z => by
    have y := Heap.lt_size he
    rw [z] at y
    exact absurd y (Nat.lt_irrefl _)
  have k5 : ∀ b o, b ≠ e → h1.get? b = some o → h4.get? b = some o := fun b o hb z => k4 b o hb (k3 b o z)
  have hns4 : h4.Ns hp.objs.size (fun y => ([("self", Value.ref e), (x, u)] : List (Str × Value)).reverse.lookup y) := by
    obtain ⟨oL, es, ep, hL, r⟩ := hns
    exact ⟨oL, es, ep, k5 _ _ ne1 hL, r⟩
  have X4 : K.In h4 := fun b o z => k5 b o (fun y => by rw [y, hKe] at z; cases z) (X1 _ _ z)
  refine ks_wpAt_execs_cons (ks_wpAt_Assign_Attr (PySem.wpAt_of_wpAny (wpAny_Name (wpAny_loadName_local sc.kind sc.arg hns4 varg ?_) sc.nd)))
  refine wpAny_Name (wpAny_loadName_local sc.kind sc.slf hns4 vself ?_) (by decide +kernel)
  refine set_plain X4 (ox := HandSPX.excO C t1) (od := none) ⟨he4, rfl, rfl, trivial⟩ S.oex.sa ?_
  refine HandSPX.exc_osa X4 he4 hcl (show HandSPX.refsVE (.ref C :: bm) = true from hbm) rfl S.no (fun h' tk' dx k dn dne hx hn => ?_)
  refine PySem.wpAt_of_wpAny (wpAny_pure ?_)
  refine hq h' tk' dx t1 (fun b o hb z => k b o hb (k5 b o hb (hk1 b o z))) ?_ dne hx hn
  obtain ⟨oL, es, ep, hL, r⟩ := hns4
  exact Nat.le_trans (Nat.le_of_lt (Heap.lt_size hL)) dn
end
end EXS
namespace L2
open PySem PySem.W PySem.Calls PySem.Spec PyProof.Rows
/-- C(e), C such a class: an exception whose dict holds f -/
def tMkS (C : Addr) (f : Str) (te : TE) : St → Hp → XK → Prop := fun σ H Q => te σ H fun v H1 => ∀ d, H1 d = none → Q (.ref C) (some d) (upd H1 d (.xd [(f, v)]))
theorem pmk_sup {X : Cx} {n : Str} {e : Expr} {te : TE} {p pos : Pos} {C fI : Addr} {x f : Str} {k : Nat} (S : EXS.SupC X.K X.prog C fI x f) (hr : Room (k + 1) X.A) (hg : Gl X n) (hm : X.mg n = some (.ref C)) (hsu : X.mg "super" = none) (he : PE X e te)
    (hdb : (n == ("__debug__" : Str)) = false := by decide) (hst : starEach [e] X.env = (false, eval e X.env) :: starEach [] X.env := by rfl) : PMk X (.Call (.Name n p) [e] [] pos) (tMkS C f te) := by
  intro pins s σ H Q I h
  obtain ⟨nm, q, N, bs, bm, sn, sub, ab, col, dd, k0, k1, k2, k3, k5, hC, hbm⟩ := S.oex.cls
  refine wpAny_Call_Name_kw (ld_glob I hg hm ?_ hdb)
  refine callWith_K (h₀ := X.base) I.ok.mod.kin S.oex.kC (thn ((pa_cons he pa_nil hst).run pos pins s σ H (fun vs H1 => match vs with
    | [v] => ∀ d, H1 d = none → Q (.ref C) (some d) (upd H1 d (.xd [(f, v)]))
    | _ => False) I h) fun us s1 ⟨vs, H1, I1, r1, q1⟩ => ⟨I1.kIn, ?_⟩) hst rfl
  cases vs with
  | nil => exact q1.elim
  | cons v vs =>
    cases vs with
    | cons _ _ => exact q1.elim
    | nil =>
      obtain ⟨u, rfl, ru⟩ := r1.one
      show wpAny _ _ (call (.ref C) [u]) _ _ _
      obtain ⟨mb, hb1, hb2⟩ := I1.ok.mod.blt
      have bk := I1.bk
      obtain ⟨hp, g, dr, tk, os⟩ := s1
      have kk : ∀ b o, hp.get? b = some o → ((hp.push (kdv_tup [u])).push (HandSPX.excO C hp.objs.size)).get? b = some o := fun b o e => Heap.get?_push_of_some _ (Heap.get?_push_of_some _ e)
      have hget : ((hp.push (kdv_tup [u])).push (HandSPX.excO C hp.objs.size)).get? (hp.objs.size + 1) = some (HandSPX.excO C hp.objs.size) := by heap_get
      have nK : X.K.lookup (hp.objs.size + 1) = none := by
        cases z : X.K.lookup (hp.objs.size + 1) with
        | none => rfl
        | some o => exact absurd (show hp.objs.size + 1 < hp.objs.size from Heap.lt_size (I1.kIn _ _ z)) (Nat.not_lt_of_le (Nat.le_succ _))
      have nge : hp.get? (hp.objs.size + 1) = none := by
        cases z : hp.get? (hp.objs.size + 1) with
        | none => rfl
        | some o => exact absurd (show hp.objs.size + 1 < hp.objs.size from Heap.lt_size z) (Nat.not_lt_of_le (Nat.le_succ _))
      refine wpAny_call (HandSPX.call_own F.excBase_ValueError (fun Y => HandSPX.refsVE_contains Y bm hbm) (I1.kIn _ _ hC) (looks_findIn I1.kIn S.init) (fun self => bind_fn I1.kIn self S.ty) (by show 1 ≤ sizeLine; decide) ?_)
      refine EXS.init_sup S (I1.kIn.keeps kk) ((I1.ok.mod.nolimit.keeps bk).keeps kk) ((I1.ok.mod.glob.keeps bk).keeps kk) ((hb1.keeps bk).keeps kk) (hb2 _ (by decide)) hsu ?_ hget nK fun h' tk' dx t1 k dn dne hx hn => ?_
      · exact (hr.make C [u] []).depth
      · refine ⟨rfl, ?_⟩
        obtain ⟨G, g1, g2⟩ := restrict h' fun b => decide (b ≠ hp.objs.size + 1)
        have gk : ∀ b, b ≠ hp.objs.size + 1 → G.get? b = h'.get? b := fun b hb => g1 b (decide_eq_true hb)
        have ge : G.get? (hp.objs.size + 1) = none := g2 _ (by simp)
        have hsz : ((hp.push (kdv_tup [u])).push (HandSPX.excO C hp.objs.size)).objs.size = hp.objs.size + 2 := by rw [Heap.size_push, Heap.size_push]
        have dn2 : hp.objs.size ≤ dx := by
          have z : ((hp.push (kdv_tup [u])).push (HandSPX.excO C hp.objs.size)).objs.size ≤ dx := dn
          rw [hsz] at z
          omega
        have J : Inv X pins σ (upd H1 dx (.xd [(f, v)])) ⟨G, g, dr, tk', os⟩ := I1.laid (t' := tk') (a := dx) (o := .xd [(f, v)]) (h' := G) (fun b o z => by
            have hb : b ≠ hp.objs.size + 1 := fun y => by rw [y, nge] at z; cases z
            rw [gk b hb]
            exact k b o hb (kk b o z)) dn2 ⟨_, hn.at fun o z => (gk dx dne).trans z, relO_put (fs := []) ru fun _ => trivial⟩
        refine ⟨hp.objs.size + 1, _, _, ⟨G, g, dr, tk', os⟩, _, .ref C, some dx, rfl, J, fun b o z => ?_, ge, hx, ⟨rfl, rfl⟩, rfl, rfl, ?_, rfl, I1.bare, raises_own S.oex.exC S.oex.tyC, q1 dx (I1.hok.fresh dn2)⟩
        · by_cases hb : b = hp.objs.size + 1
          · rw [hb, ge] at z; cases z
          · exact (gk b hb).symm.trans z
        · rw [upd_ne (Ne.symm dne)]
          exact I1.hok.fresh (Nat.le_succ _)
end L2

set_option Elab.async false
set_option linter.all false
set_option maxRecDepth 100000
set_option maxHeartbeats 2000000
namespace EXS
open PySem PySem.W PySem.Calls PySem.Spec PyProof.Rows
theorem and2 {a b : Bool} (h : (a && b) = true) : a = true ∧ b = true := by simpa using h
def scB (sc : Scope) (x : Str) : Bool := decide (sc.names.lookup ("super" : Str) = some .globalImplicit) && (decide (sc.names.lookup ("__class__" : Str) = some .free) && (decide (sc.names.lookup ("self" : Str) = some .local) && (decide (sc.names.lookup x = some .local) &&
  (sc.names.all (fun y => decide (y.2 ≠ .cell)) && (decide (sc.kind = .function) && (decide (sc.isCoroutine = false) && (decide (sc.isGenerator = false) && (decide (x ≠ "self") && decide ((x == ("__debug__" : Str)) = false)))))))))
theorem scB_ok {sc : Scope} {x : Str} (h : scB sc x = true) : ScOk sc x := by
  unfold scB at h
  obtain ⟨h1, h⟩ := and2 h
  obtain ⟨h2, h⟩ := and2 h
  obtain ⟨h3, h⟩ := and2 h
  obtain ⟨h4, h⟩ := and2 h
  obtain ⟨h5, h⟩ := and2 h
  obtain ⟨h6, h⟩ := and2 h
  obtain ⟨h7, h⟩ := and2 h
  obtain ⟨h8, h⟩ := and2 h
  obtain ⟨h9, h10⟩ := and2 h
  exact ⟨of_decide_eq_true h1, of_decide_eq_true h2, of_decide_eq_true h3, of_decide_eq_true h4, fun y hy => of_decide_eq_true (List.all_eq_true.mp h5 y hy), of_decide_eq_true h6, of_decide_eq_true h7, of_decide_eq_true h8, of_decide_eq_true h9, of_decide_eq_true h10⟩
def bodyB (x f : Str) : List Stmt → Bool
  | [.Expr (.Call (.Attribute (.Call (.Name s _) [] [] _) i p2) [.Name y _] [] p4) _, .Assign [.Attribute (.Name sf _) g _] (.Name z _) _] =>
    decide (s = "super") && (decide (i = "__init__") && (decide (y = x) && (decide (sf = "self") && (decide (g = f) && (decide (z = x) && (p2.endLine == p4.line))))))
  | _ => false
theorem bodyB_ok {x f : Str} {b : List Stmt} (h : bodyB x f b = true) : ∃ p0 p1 p2 p3 p4 p5 p6 p7 p8 p9, b = supBody x f p0 p1 p2 p3 p4 p5 p6 p7 p8 p9 ∧ (p2.endLine == p4.line) = true := by
  unfold bodyB at h
  split at h
  · obtain ⟨h1, h⟩ := and2 h
    obtain ⟨h2, h⟩ := and2 h
    obtain ⟨h3, h⟩ := and2 h
    obtain ⟨h4, h⟩ := and2 h
    obtain ⟨h5, h⟩ := and2 h
    obtain ⟨h6, h7⟩ := and2 h
    have h1 := of_decide_eq_true h1
    have h2 := of_decide_eq_true h2
    have h3 := of_decide_eq_true h3
    have h4 := of_decide_eq_true h4
    have h5 := of_decide_eq_true h5
    have h6 := of_decide_eq_true h6
    subst h1 h2 h3 h4 h5 h6
    exact ⟨_, _, _, _, _, _, _, _, _, _, rfl, h7⟩
  · cases h
def parB (x : Str) : Arguments → Bool
  | ⟨[], [⟨a, _, _⟩, ⟨b, _, _⟩], none, [], [], none, []⟩ => decide (a = "self") && decide (b = x)
  | _ => false
theorem parB_ok {x : Str} {p : Arguments} (h : parB x p = true) : ∃ a1 a2 q1 q2, p = ⟨[], [⟨"self", a1, q1⟩, ⟨x, a2, q2⟩], none, [], [], none, []⟩ := by
  unfold parB at h
  split at h
  · obtain ⟨h1, h2⟩ := and2 h
    have h1 := of_decide_eq_true h1
    have h2 := of_decide_eq_true h2
    subst h1 h2
    exact ⟨_, _, _, _, rfl⟩
  · cases h
def fileB (K : Frag) (file : Str) (c : Addr) : Bool := match K.lookup c with
  | some ⟨_, _, .fields vs, _⟩ => (match (vs[2]? : Option Value) with | some (.str n _) => decide (n = file) | _ => false)
  | _ => false
theorem fileB_ok {K : Frag} {file : Str} {c : Addr} (h : fileB K file c = true) : ∃ ccl cdd vs ccs tf, K.lookup c = some ⟨ccl, cdd, .fields vs, ccs⟩ ∧ vs[2]? = some (.str file tf) := by
  unfold fileB at h
  split at h
  · rename_i a b vs d e
    split at h
    · rename_i n t e2
      have := of_decide_eq_true h
      subst this
      exact ⟨_, _, _, _, _, e, e2⟩
    · cases h
  · cases h
def cellB (K : Frag) (C c : Addr) : Bool := match K.lookup c with
  | some ⟨_, _, .cell (some (.ref D)), _⟩ => decide (D = C)
  | _ => false
theorem cellB_ok {K : Frag} {C c : Addr} (h : cellB K C c = true) : ∃ cl cld csl, K.lookup c = some ⟨cl, cld, .cell (some (.ref C)), csl⟩ := by
  unfold cellB at h
  split at h
  · rename_i a b D d e
    have := of_decide_eq_true h
    subst this
    exact ⟨_, _, _, e⟩
  · cases h
def noneB : Value → Bool
  | .none => true
  | _ => false
def fnB (K : Frag) (file : Str) (C fI : Addr) (x f : Str) : Bool := match K.lookup fI with
  | some ⟨_, _, .func ⟨name, qual, params, .stmts body, scope, gl, [(n, cc)], dV, _, _, _, _, .ref cda, _, bl⟩, _⟩ =>
    decide (name = "__init__") && (decide (n = "__class__") && (decide (gl = mainGlobals) && (decide (bl = builtinsNs) && (noneB dV && (parB x params && (bodyB x f body && (scB scope x && (codeIn K (.ref cda) qual && (fileB K file cda && cellB K C cc)))))))))
  | _ => false
theorem fnB_ok {K : Frag} {prog : Program} {C fI : Addr} {x f : Str} (h : fnB K prog.main.file C fI x f = true) : ∃ (oc : Value) (od : Option Addr) (osl : Array (Option Value)) (qual : Str) (scope : Scope) (kV doc pm : Value) (an : Option Addr) (cda cc : Addr) (ct : Value) (a1 a2 : Option Expr) (q1 q2 p0 p1 p2 p3 p4 p5 p6 p7 p8 p9 : Pos),
    K.lookup fI = some ⟨oc, od, .func (ksFn "__init__" qual ⟨[], [⟨"self", a1, q1⟩, ⟨x, a2, q2⟩], none, [], [], none, []⟩ (supBody x f p0 p1 p2 p3 p4 p5 p6 p7 p8 p9) scope .none kV doc pm an (.ref cda) ct cc), osl⟩ ∧
    codeIn K (.ref cda) qual = true ∧ (∃ ccl cdd vs ccs file tf, K.lookup cda = some ⟨ccl, cdd, .fields vs, ccs⟩ ∧ vs[2]? = some (.str file tf) ∧ ((prog.main.file : Str) == file) = true) ∧
    (∃ cl cld csl, K.lookup cc = some ⟨cl, cld, .cell (some (.ref C)), csl⟩) ∧ ScOk scope x ∧ (p2.endLine == p4.line) = true := by
  unfold fnB at h
  split at h
  · rename_i oc od name qual params body scope gl n cc dV kV doc pm an cda ct bl osl e
    obtain ⟨h1, h⟩ := and2 h
    obtain ⟨h2, h⟩ := and2 h
    obtain ⟨h3, h⟩ := and2 h
    obtain ⟨h4, h⟩ := and2 h
    obtain ⟨h5, h⟩ := and2 h
    obtain ⟨h6, h⟩ := and2 h
    obtain ⟨h7, h⟩ := and2 h
    obtain ⟨h8, h⟩ := and2 h
    obtain ⟨h9, h⟩ := and2 h
    obtain ⟨h10, h11⟩ := and2 h
    have h1 := of_decide_eq_true h1
    have h2 := of_decide_eq_true h2
    have h3 := of_decide_eq_true h3
    have h4 := of_decide_eq_true h4
    have h5 : dV = .none := by
      cases dV <;> first | rfl | cases h5
    obtain ⟨a1, a2, q1, q2, h6⟩ := parB_ok h6
    obtain ⟨p0, p1, p2, p3, p4, p5, p6, p7, p8, p9, h7, hl⟩ := bodyB_ok h7
    obtain ⟨ccl, cdd, vs, ccs, tf, hf1, hf2⟩ := fileB_ok h10
    subst h1 h2 h3 h4 h5 h6 h7
    exact ⟨oc, od, osl, qual, scope, kV, doc, pm, an, cda, cc, ct, a1, a2, q1, q2, p0, p1, p2, p3, p4, p5, p6, p7, p8, p9, e, h9, ⟨ccl, cdd, vs, ccs, _, tf, hf1, hf2, beq_self_eq_true _⟩, cellB_ok h11, scB_ok h8, hl⟩
  · cases h
def clsB (K : Frag) (C : Addr) : Bool := match K.lookup C with
  | some ⟨.type c, _, .cls ⟨_, _, .ref C' :: bm, _, _, hd, _, _, _, _, dl⟩, ⟨[_, _, _, _, some (.builtin n), _]⟩⟩ => decide (c = "type") && (decide (C' = C) && (HandSPX.refsVE bm && (hd && (!dl && decide (n = "ValueError.__new__")))))
  | _ => false
theorem clsB_ok {K : Frag} {C : Addr} (h : clsB K C = true) : ∃ nm q N bs bm sn sub ab col dd k0 k1 k2 k3 k5, K.lookup C = some (excClassObj nm q C N bs bm true sn sub ab col dd k0 k1 k2 k3 k5 "ValueError.__new__") ∧ HandSPX.refsVE bm = true := by
  unfold clsB at h
  split at h
  · rename_i c dd nm bs C' bm ns qn hd sn sb ab col dl k0 k1 k2 k3 n k5 e
    obtain ⟨h1, h⟩ := and2 h
    obtain ⟨h2, h⟩ := and2 h
    obtain ⟨h3, h⟩ := and2 h
    obtain ⟨h4, h⟩ := and2 h
    obtain ⟨h5, h6⟩ := and2 h
    have h1 := of_decide_eq_true h1
    have h2 := of_decide_eq_true h2
    have h6 := of_decide_eq_true h6
    have h5 : dl = false := by simpa using h5
    subst h1 h2 h4 h5 h6
    exact ⟨_, _, _, _, _, _, _, _, _, _, _, _, _, _, _, e, h3⟩
  · cases h
def supB (K : Frag) (prog : Program) (n x f : Str) : Bool :=
  let C := He.ga K n
  let fI := He.ma K C "__init__"
  clsB K C && (He.eqO (findIn K (.ref C) "__setattr__") (some (some (.builtin "object.__setattr__"))) && (decide (subIn K (.ref C) (.type "BaseException") = some true) && (decide (typeIn K (.ref C) = some (.type "type")) && (keepIn K (.ref C) &&
  (He.eqO (findIn K (.ref C) "__init__") (some (some (.ref fI))) && (decide (typeIn K (.ref fI) = some (.type "function")) && (He.eqO (findIn K (.ref C) f) (some none) && (fnB K prog.main.file C fI x f && (decide (mroIn K C (.ref C) = some true) &&
  (decide ((prog.main.scope.names.lookup ("super" : Str)).isSome = false) && (He.eqO (ks_superIn K C C "__init__") (some (some (.builtin "ValueError.__init__"))) && (decide (subIn K (.ref C) (.type "ValueError") = some true) && He.eqO (nsIn K cStatics "thirdparty.any") (some none)))))))))))))
theorem supB_ok {K : Frag} {prog : Program} {n x f : Str} (hb : BindX x) (h : supB K prog n x f = true) : SupC K prog (He.ga K n) (He.ma K (He.ga K n) "__init__") x f := by
  unfold supB at h
  obtain ⟨h1, h⟩ := and2 h
  obtain ⟨h2, h⟩ := and2 h
  obtain ⟨h3, h⟩ := and2 h
  obtain ⟨h4, h⟩ := and2 h
  obtain ⟨h5, h⟩ := and2 h
  obtain ⟨h6, h⟩ := and2 h
  obtain ⟨h7, h⟩ := and2 h
  obtain ⟨h8, h⟩ := and2 h
  obtain ⟨h9, h⟩ := and2 h
  obtain ⟨h10, h⟩ := and2 h
  obtain ⟨h11, h⟩ := and2 h
  obtain ⟨h12, h⟩ := and2 h
  obtain ⟨h13, h14⟩ := and2 h
  exact ⟨⟨clsB_ok h1, He.eqO_ok h2, of_decide_eq_true h3, of_decide_eq_true h4, h5⟩, He.eqO_ok h6, of_decide_eq_true h7, He.eqO_ok h8, fnB_ok h9, hb, of_decide_eq_true h10, of_decide_eq_true h11, He.eqO_ok h12, of_decide_eq_true h13, He.eqO_ok h14⟩
end EXS

set_option Elab.async false
set_option linter.all false
set_option maxRecDepth 100000
/-! a hook whose written part holds the C statics, too (super() asks them) -/
namespace He
open PySem PySem.Spec PyProof.Rows L2
def obsS (n : Nat) (fa : List Fa) (fn : List DefD) (ex : PySem.W.Frag → Bool) (g : Addr → Option Obj) : AlT × Bool := (obsT fa fn [] (frT g (cStatics :: asD g n)), ex (frT g (cStatics :: asD g n)))
structure SaysS (fa : List Fa) (fn : List DefD) (ex : PySem.W.Frag → Bool) (w : World) (K : PySem.W.Frag) : Prop where
  t : SaysT fa fn [] w K
  more : ex K = true
def hookS (n : Nat) (fa : List Fa) (fn : List DefD) (ex : PySem.W.Frag → Bool) : PySem.W.Hook where
  α := AlT × Bool
  obs := fun s => obsS n fa fn ex s.heap.get?
  val := fun w => (valT fn [] w, true)
  says := fun w h => ∃ K : PySem.W.Frag, K.In h ∧ SaysS fa fn ex w K
  of := fun _ _ e => ⟨_, frT_in, congrArg (fun z : AlT × Bool => z.1) e, congrArg (fun z : AlT × Bool => z.2) e⟩
  keeps := fun _ _ _ ⟨K, hK, c⟩ k => ⟨K, PySem.W.Frag.In.keeps hK k, c⟩
theorem obsS_eq {n : Nat} {fa : List Fa} {fn : List DefD} {ex : PySem.W.Frag → Bool} {g : Addr → Option Obj} {s : Shared} (h : ∀ a, g a = s.heap.get? a) : obsS n fa fn ex g = (hookS n fa fn ex).obs s := by
  have e : g = s.heap.get? := funext h
  rw [e] <;> rfl
end He

set_option Elab.async false
set_option linter.all false
set_option maxRecDepth 100000
namespace DL
open PySem PySem.Spec PyProof.Rows L2
/-! ### exceptions -/
/-- an exception of the class C whose field f holds d -/
def XLink (K : PySem.W.Frag) (F G : Hp) (W : XK) (X : Str → Str → D → Prop) : Prop := ∀ C f v d dx G' H', Ex G G' → Wd F G' H' → H' dx = some (.xd [(f, v)]) → G' dx = none → F dx = none → Rep K G' v d → X C f d → W (.ref (He.ga K C)) (some dx) H'
theorem XLink.mono {K : PySem.W.Frag} {F G G1 : Hp} {W : XK} {X : Str → Str → D → Prop} (L : XLink K F G W X) (e : Ex G G1) : XLink K F G1 W X := fun C f v d dx G' H' x => L C f v d dx G' H' (e.trans x)
/-- an expression that may raise; W: what is wished of an exception -/
def EvX (K : PySem.W.Frag) (te : TE) (W : XK) (ρ : Env) (Q : D → Env → Prop) (X : Str → Str → D → Prop) : Prop := ∀ F G H σ, RE K F G H σ ρ → XLink K F G W X → ∀ Q' : VK,
  (∀ v d ρ' G' H', Ex G G' → RE K F G' H' σ ρ' → Rep K G' v d → Q d ρ' → Q' v H') → te σ H Q'
/-- a def of plain data that may raise -/
def spX (K : PySem.W.Frag) (T : List D → (D → Prop) → (Str → Str → D → Prop) → Prop) : Sp := fun vs H Q W => ∃ F G ds Qd X, Wd F G H ∧ Reps K G vs ds ∧ T ds Qd X ∧
  (∀ v d G' H', Ex G G' → Wd F G' H' → Rep K G' v d → Qd d → Q v H') ∧ XLink K F G W X
section
variable {K : PySem.W.Frag} {te ta tb tc : TE} {tt : TT} {ts : TA} {ρ : Env} {Q : D → Env → Prop} {E : EndD} {W : XK} {X : Str → Str → D → Prop} {T : List D → (D → Prop) → (Str → Str → D → Prop) → Prop}
theorem ex_call (h : EvA K ts ρ fun ds ρ1 => T ds (fun d => Q d ρ1) X) : EvX K (tCall (spX K T) [] W ts) W ρ Q X := fun F G H σ R L Q' k =>
  h F G H σ R _ fun vs ds ρ1 G1 H1 e1 R1 hv q => by
    refine ⟨addF F H1 (ownA ρ1), G1, ds, _, X, R1.wdF (fun _ m => m), by rw [List.append_nil]; exact hv, q, fun v d G' H' e Wd' hd qd => ?_, fun C f v d dx G' H' e Wd' h1 h2 h3 h4 h5 => ?_⟩
    · exact k v d ρ1 G' H' (e1.trans e) (R1.back Wd' e) hd qd
    · refine L C f v d dx G' H' (e1.trans e) (R1.back Wd' e).wd h1 h2 ?_ h4 h5
      by_cases m : dx ∈ ownA ρ1
      · exact (R1.sl.own m).2.1
      · rw [addF_out m] at h3; exact h3
theorem Links.xl {F G : Hp} {Dn : Ends} (L : Links K F G E Dn) : XLink K F G E.W E.xx := L.xx
theorem ws_dropX (hW : E.W = W) (h : EvX K te W ρ (fun _ ρ' => E.nx ρ') E.xx) : WS K (tDrop te) ρ E := fun F G H σ Dn R L => h F G H σ R (hW ▸ L.xl) _ fun v d ρ' G' H' e R' _ q => L.nx σ ρ' G' H' e R' q
theorem ws_retX (hW : E.W = W) (h : EvX K te W ρ (fun d ρ' => E.rt d ρ') E.xx) : WS K (tRet te) ρ E := fun F G H σ Dn R L => h F G H σ R (hW ▸ L.xl) _ fun v d ρ' G' H' e R' hv q => L.rt v d σ ρ' G' H' e R' hv q
theorem ws_asgX {i : Nat} (hW : E.W = W) (h : EvX K te W ρ (fun d ρ' => E.nx (ρ'.set i (.sh d))) E.xx) : WS K (tAsg te (gName i)) ρ E := fun F G H σ Dn R L => h F G H σ R (hW ▸ L.xl) _ fun v d ρ' G' H' e R' hv q => L.nx _ _ G' H' e (R'.setSh hv i) q
/-- raise C(e) -/
theorem ws_raise {C f : Str} (hW : E.W = W) (h : EvW K te ρ fun d _ => E.xx C f d) : WS K (fun _ σ H => tMkS (He.ga K C) f te σ H fun cls d H' => W cls d H') ρ E := fun F G H σ Dn R L =>
  h F G H σ R _ fun v d ρ1 G1 H1 e1 R1 hv q => fun dx hdx => by
    rw [← hW]
    exact L.xx C f v d dx G1 _ e1 (R1.alone hdx).wd upd_same (R1.wd.g.none hdx) (R1.wd.f.none hdx) hv q
/-- a def that may raise, by name -/
structure FnX (P : Program) (w : World) (K : PySem.W.Frag) (mg : Str → Option Value) (base : Heap) (k : Nat) (x : Str) (ps : List Str) (sp : Sp) : Prop where
  ex : ∃ fd, FnOk P w K mg base (L2.CX P w) k (He.ga K x) fd ps sp ∧ Binds K fd ps []
  kp : PySem.W.keepIn K (.ref (He.ga K x)) = true
  at_ : mg x = some (.ref (He.ga K x))
theorem pe_callX {X : Cx} {k : Nat} {x : Str} {ps : List Str} {sp : Sp} {e : Expr} {es : List Expr} {t : TA} {W : WX} {E : XK} {p pos : Pos} (F : FnX X.prog X.w X.K X.mg X.base k x ps sp) (tk : Takes X W) (hW : ∀ cls d σ H, E cls d H → W cls d σ H) (hr : Room k X.A) (ha : PA X (e :: es) t) (hg : Gl X x := by rfl)
    (he : starEach (e :: es) X.env = (false, eval e X.env) :: starEach es X.env := by rfl) (hpl : (backTo pos (starEach es X.env)).any (·.1) = false := by rfl) (hd : (x == ("__debug__" : Str)) = false := by decide) : PE X (.Call (.Name x p) (e :: es) [] pos) (tCall sp [] E t) := by
  obtain ⟨fd, h1, h2⟩ := F.ex
  exact pe_call h1 hr hg F.at_ F.kp h2 .nil (passes_call tk hW) ha hd he hpl
/-- nothing is raised here -/
theorem takesN {X : Cx} : Takes X (fun _ _ _ _ => False) := fun _ _ x => by
  obtain ⟨_, _, _, _, _, _, _, _, _, _, _, _, _, _, _, _, z⟩ := x
  exact z.elim
/-- a call that does not raise -/
theorem ew_callQ (h : EvA K ts ρ fun ds ρ1 => T ds (fun d => Q d ρ1) fun _ _ _ => False) : EvW K (tCall (spX K T) [] W ts) ρ Q := fun F G H σ R Q' k =>
  ex_call (X := fun _ _ _ => False) h F G H σ R (fun _ _ _ _ _ _ _ _ _ _ _ _ _ z => z.elim) Q' k
theorem fn_X {P : Program} {w : World} {mg : Str → Option Value} {base : Heap} {x qual : Str} {params : Arguments} {body : List Stmt} {scope : Scope} {fd : FuncData} {N ps : List Str} {k : Nat}
    (F : FunD K x qual params body scope [] [] (He.ga K x) fd) (at_ : mg x = some (.ref (He.ga K x)))
    (bi : ∀ (kV doc pm : Value) (an : Option Addr) (cdv ct : Value) (us : List Value), us.length = ps.length → bindArgs (PySem.W.fnOf x qual params body scope .none kV doc pm an cdv ct) ⟨us, []⟩ = pure (ps.zip us))
    (S : FnScope N ps scope) (hl : ∀ ds Qd X, T ds Qd X → ds.length = ps.length)
    (hb : ∀ (cdv : Value) (A : Around) (outer : List PySem.Env) (s : Shared) (H : Hp) (W : XK), Room k (A.deeper (envOfC qual scope s.heap.objs.size (He.ga K x) cdv)) →
      Takes (cxOf (L2.CX P w) P w K mg base N qual scope (He.ga K x) cdv A outer s H W) (fun cls d _ H => W cls d H) → PassesOwn (model P w) (A.deeper (envOfC qual scope s.heap.objs.size (He.ga K x) cdv)) (envOfC qual scope s.heap.objs.size (He.ga K x) cdv) (cxOf (L2.CX P w) P w K mg base N qual scope (He.ga K x) cdv A outer s H W).xe →
      ∃ t, PSs (cxOf (L2.CX P w) P w K mg base N qual scope (He.ga K x) cdv A outer s H W) body t ∧ ∀ ds Qd X, T ds Qd X → WS K t (envP N ds) { nx := fun _ => Qd .non, rt := fun d _ => Qd d, W := W, xx := X }) :
    FnX P w K mg base (k + 1) x ps (spX K T) := by
  refine ⟨⟨fd, F.ok S (fun vs H Q E h => ?_) (fun cdv A outer s H vs Q W hr h => ?_), F.bindsN bi⟩, F.kp, at_⟩
  · obtain ⟨_, _, ds, Qd, X, _, r, t, _⟩ := h
    rw [r.length]; exact hl ds Qd X t
  · obtain ⟨F', G, ds, Qd, X, Wd', r, tt, post, lk⟩ := h
    obtain ⟨t, hd, hw⟩ := hb cdv A outer s H W hr (takes_of rfl rfl rfl rfl) (passes_of rfl)
    refine ⟨t, hd, ?_⟩
    have R : RE K F' G H (L2.start N vs) (envP N ds) := by
      unfold L2.start
      refine ⟨Wd', by rw [r.length]; exact slots_start _ r, by rw [own_start]; exact List.nodup_nil⟩
    refine hw ds Qd X tt F' G H (L2.start N vs) _ R ⟨fun σ' ρ' G' H' e R' q => ?_, fun v d σ' ρ' G' H' e R' hv q => ?_, fun σ' ρ' G' H' e R' q => q.elim, fun σ' ρ' G' H' e R' q => q.elim, fun p d σ' ρ' G' H' e R' _ _ _ _ q => q.elim, lk⟩
    · exact post .non .non G' H' e R'.wd .non q
    · exact post v d G' H' e R'.wd hv q
end
end DL

set_option Elab.async false
set_option linter.all false
set_option maxRecDepth 100000
set_option maxHeartbeats 2000000
/-! a lambda handed to a def: the heap behind its making, told exactly -/
namespace LamY
open PySem PySem.Spec PyProof.Rows L2 LamX
/-- the heap behind the making: as it was, or with a code object more, told by the table -/
def Made (q : Str) (P : Addr) (ps : Array Value) (H H1 : Hp) : Prop := H1 = H ∨ ∃ (c : Addr) (ps' : Array Value), H c = none ∧ c ≠ P ∧ H1 = upd (upd H P (.tbl ps')) c (CodeO c q) ∧ TriplesOk ps'.toList ∧
  ∀ (pos : Pos) (cv : Value), codeAmong pos ps'.toList = some cv → codeAmong pos ps.toList = some cv ∨ cv = .ref c
/-- the table at P as it is asked -/
def TabOk (H : Hp) (P : Addr) (q : Str) (ps : Array Value) : Prop := H P = some (.tbl ps) ∧ TriplesOk ps.toList ∧ ∀ (pos : Pos) (cv : Value), codeAmong pos ps.toList = some cv → ∃ c, cv = .ref c ∧ H c = some (CodeO c q)
section
variable {X : Cx} {pins : List (Addr × Obj)} {σ : L2.St} {H : Hp} {s : Shared}
theorem make3 {c P : Addr} {ps : Array Value} {params : Arguments} {body : Expr} {scope : Scope} {pos : Pos} {E : Value → Shared → Prop} {Q : Value → Shared → Prop} (I : Inv X pins σ H s) (TB : TabB X.base X.mg c P) (hcode : X.env.code = .ref c)
    (hT : TabOk H P (X.env.qual ++ "<lambda>") ps) (hdef : defaultsOf params X.env = ([], [])) (hfree : ∀ y ∈ scope.names, y.2 = .free → ∃ c, X.env.cells.lookup y.1 = some c)
    (h : ∀ (f c' : Addr) (pm ctv : Value) (H1 : Hp) (s' : Shared), Inv X pins σ H1 s' → Made (X.env.qual ++ "<lambda>") P ps H H1 →
      s'.heap.get? f = some (PySem.W.kla_obj "<lambda>" (X.env.qual ++ "<lambda>") params body scope (cloFrom X.env.cells scope.names []) pm c' ctv) → H1 f = none → f ∉ frs X.stack → H1 c' = some (CodeO c' (X.env.qual ++ "<lambda>")) → Q (.ref f) s') :
    wpAny (model X.prog X.w) X.A (eval (.Lambda params body scope pos) X.env) Q E s := by
  obtain ⟨hP, ht, ha⟩ := hT
  have at_P : s.heap.get? P = some { cls := .none, data := .fields ps } := I.hok P _ hP
  have away : ∀ f, s.heap.objs.size ≤ f → f ∉ frs X.stack := fun f hf z => by
    rcases List.mem_cons.mp (I.stkSub _ z) with e | e
    · exact Nat.lt_irrefl _ (Nat.lt_of_lt_of_le (e ▸ I.lt) hf)
    · exact I.nofs hf e
  refine PySem.W.kla_eval hdef ?_
  cases hc : codeAmong pos ps.toList with
  | some cv =>
    obtain ⟨c', rfl, hco⟩ := ha pos cv hc
    refine PySem.W.kla_makeFunctionHit (mg := X.mg) (c := c) (P := P) (ps := ps) (closure_ok hfree) I.ok.glob (I.mod.glob.keeps I.bk) hcode (TB.code.keeps I.bk) at_P ht hc (TB.bm.keeps I.bk) fun ctv h' tk hx hsz => ?_
    exact h h'.objs.size c' ((X.mg "__name__").getD .none) ctv H _ (I.kept fun b o e => Heap.get?_push_of_some _ (hx b o e)) (.inl rfl) (Heap.get?_push_size _ rfl) (I.hok.fresh hsz) (away _ hsz) hco
  | none =>
    refine PySem.W.kla_makeFunction (mg := X.mg) (c := c) (P := P) (ps := ps) (closure_ok hfree) I.ok.glob (I.mod.glob.keeps I.bk) hcode (TB.code.keeps I.bk) at_P ht hc TB.gP (TB.bm.keeps I.bk) fun c' ctv h' tk hx hge hlt hrec htb => ?_
    obtain ⟨c2, oc, vs, t, e2, hoc, hd, hv⟩ := hrec
    cases e2
    have hsz : s.heap.objs.size ≤ h'.objs.size := Nat.le_trans hge (Nat.le_of_lt hlt)
    have nC : H c' = none := I.hok.fresh hge
    have nP : c' ≠ P := Ne.symm (ne_of_none hP nC)
    have J := inv_table (t' := tk) (more := #[rawInt pos.line, rawInt pos.col, .ref c']) (q := X.env.qual ++ "<lambda>") (h' := h'.push (PySem.W.kla_obj "<lambda>" (X.env.qual ++ "<lambda>") params body scope (cloFrom X.env.cells scope.names []) ((X.mg "__name__").getD .none) c' ctv)) I hP
      (fun b o hb e => Heap.get?_push_of_some _ (hx b o hb e)) (Heap.get?_push_of_some _ htb) hge ⟨oc, vs, t, Heap.get?_push_of_some _ hoc, hd, hv⟩
    have eL : (ps ++ #[rawInt pos.line, rawInt pos.col, .ref c']).toList = ps.toList ++ [rawInt pos.line, rawInt pos.col, .ref c'] := by simp
    refine h h'.objs.size c' ((X.mg "__name__").getD .none) ctv _ _ J (.inr ⟨c', ps ++ #[rawInt pos.line, rawInt pos.col, .ref c'], nC, nP, rfl, by rw [eL]; exact PySem.TriplesOk_snoc _ _ _ _ ht, fun p' cv hcv => ?_⟩) (Heap.get?_push_size _ rfl) ?_ (away _ hsz) upd_same
    · rw [eL] at hcv
      exact among_app _ ht hcv
    · rw [upd_ne (Nat.ne_of_gt hlt), upd_ne (Nat.ne_of_gt (Nat.lt_of_lt_of_le (Heap.lt_size at_P) hsz))]
      exact I.hok.fresh hsz
end
def tLam3 (P : Addr) (q : Str) (TT : (XK → Hp → VK → Prop) → Hp → VK → Prop) (t : XK → TE) : TE := fun σ H Q => ∃ ps, TabOk H P q ps ∧ ∀ H1, Made q P ps H H1 → TT (fun E H' Q' => t E σ H' Q') H1 Q
section
variable {X : Cx}
/-- x(lambda: body) -/
theorem pe_lamcall3 {TT : (XK → Hp → VK → Prop) → Hp → VK → Prop} {x a : Str} {g c P : Addr} {k : Nat} {pg : Arguments} {bg : List Stmt} {sg : Scope} {dV kV doc pm cdv ct oc : Value} {an od : Option Addr} {osl : Array (Option Value)} {Ng : List Str}
    {params : Arguments} {body : Expr} {scope : Scope} {t : XK → TE} {p lpos pos : Pos} (hg : Gl X x) (hm : X.mg x = some (.ref g)) (hk : PySem.W.keepIn X.K (.ref g) = true)
    (lk : X.K.lookup g = some ⟨oc, od, .func (PySem.W.fnOf x x pg bg sg dV kV doc pm an cdv ct), osl⟩) (hcg : PySem.W.codeIn X.K cdv x = true) (hb : L2.Binds X.K (PySem.W.fnOf x x pg bg sg dV kV doc pm an cdv ct) [a] []) (Sg : FnScope Ng [a] sg) (hNg : Ng[0]? = some a) (hva : Vis sg a)
    (hG : GivesTo X Ng x sg g cdv bg a (X.env.qual ++ "<lambda>") TT)
    (TB : TabB X.base X.mg c P) (hcode : X.env.code = .ref c) (hr : Room (k + 2) X.A) (L : LamS X.env.scope scope) (hdef : defaultsOf params X.env = ([], []))
    (hbind : ∀ (q : Str) (cl : List (Str × Addr)) (pm cv ctv : Value), bindArgs (PySem.W.kla_fn "<lambda>" q params body scope cl pm cv ctv) ⟨[], []⟩ = pure [])
    (hbody : ∀ (A : Around) (outer : List PySem.Env) (s : Shared) (H : Hp) (E : XK) (f c' : Addr), Room k (A.deeper (lamEnv X scope s.heap.objs.size f c')) → PE (lamCx X A outer s H E scope f c') body (t E))
    (hdb : (x == ("__debug__" : Str)) = false := by decide) (hd : (a == ("__debug__" : Str)) = false := by decide) (hcd : (a == ("__classdict__" : Str)) = false := by decide) :
    PE X (.Call (.Name x p) [.Lambda params body scope lpos] [] pos) (tLam3 P (X.env.qual ++ "<lambda>") TT t) := by
  refine ⟨fun pins s σ H Q I h => ?_⟩
  obtain ⟨ps, hT, h⟩ := h
  refine wpAny_Call_Name_kw (ld_glob I hg hm ?_ hdb)
  refine PySem.W.callWith_K (h₀ := X.base) I.ok.mod.kin hk ?_ (by rfl) (by rfl)
  show wpAny _ _ (spliced ((false, eval (.Lambda params body scope lpos) X.env) :: backTo pos (starEach [] X.env))) _ _ s
  refine Calls.spliced_cons (make3 I TB hcode hT hdef (L.has I.ok) fun f c' pm' ctv H1 s' I1 md hf hfn hfr hco => Calls.spliced_nil ⟨I1.kIn, ?_⟩)
  have run : codeAny (model X.prog X.w) X.A (.call (.ref g) ⟨[.ref f], []⟩) (CR C8.CX0 X.stack X.prog X.w H1 s' Q C8.E0) s' := by
    refine run_ofS (N := Ng) (ps := [a]) (us := [.ref f]) (vs := [.ref f]) lk hcg Sg hr I1.env0 (hb s' [.ref f] I1.kIn rfl) (.cons rfl .nil) rfl fun hr' => ?_
    obtain ⟨t', ht', hq'⟩ := hG f c' s' H1 Q (fun E H' Q' => t E σ H' Q') (fun W pn xe E p1 p2 tk hW => pe_act (i := 0) I1 L hf hfn hfr (hbind _ _ _ _ _) tk hW hr' (fun A outer s H hr2 => hbody A outer s H E f c' hr2) hNg hva hd hcd) hco (h H1 md)
    exact ⟨t', ht'.nox, hq'⟩
  refine wpAny_call (codeAny_mono run fun r s2 hq => ?_)
  cases r with
  | error e => exact (show False from hq).elim
  | ok fl =>
    cases fl with
    | ret u => exact I1.after hq
    | next => exact False.elim hq
    | brk => exact False.elim hq
    | cont => exact False.elim hq
end
end LamY

set_option Elab.async false
set_option linter.all false
set_option maxRecDepth 100000
namespace DL
open PySem PySem.Spec PyProof.Rows L2 LamX LamY
section
variable {K : PySem.W.Frag} {te : TE} {ρ : Env} {Q : D → Env → Prop}
/-- what the def that gets the lambda makes of it -/
def EvL (K : PySem.W.Frag) (TT : (XK → Hp → VK → Prop) → Hp → VK → Prop) (t : XK → TE) (ρ : Env) (Q : D → Env → Prop) : Prop := ∀ F G H σ, RE K F G H σ ρ → ∀ Q' : VK,
  (∀ v d ρ' G' H', Ex G G' → RE K F G' H' σ ρ' → Rep K G' v d → Q d ρ' → Q' v H') → TT (fun E H' Q' => t E σ H' Q') H Q'
theorem upd_comm {H : Hp} {a b : Addr} {x y : HO} (h : a ≠ b) : upd (upd H a x) b y = upd (upd H b y) a x := by
  funext z
  by_cases h1 : z = a
  · subst h1; rw [upd_ne h, upd_same, upd_same]
  · by_cases h2 : z = b
    · subst h2; rw [upd_same, upd_ne h1, upd_same]
    · rw [upd_ne h2, upd_ne h1, upd_ne h1, upd_ne h2]
theorem ew_lam {i : Nat} {d0 : D} {P : Addr} {q : Str} {TT : (XK → Hp → VK → Prop) → Hp → VK → Prop} {t : XK → TE} (hi : ρ[i]? = some (.tab d0 P q)) (h : EvL K TT t ρ Q) : EvW K (tLam3 P q TT t) ρ Q := fun F G H σ R Q' k => by
  obtain ⟨s, hs, ⟨v, hv, rv⟩, hG, hF, ps, hP, ht, ha⟩ := R.sl.get hi
  refine ⟨ps, ⟨hP, ht, fun pos cv hc => ?_⟩, fun H1 md => ?_⟩
  · obtain ⟨c, e1, e2⟩ := ha pos cv hc
    exact ⟨c, e1, R.wd.g _ _ e2⟩
  rcases md with rfl | ⟨c, ps', hc, hcP, rfl, ht', ha'⟩
  · exact h F G H1 σ R Q' k
  · have hGc := R.wd.g.none hc
    have R1 := R.new (o := CodeO c q) hc
    have R2 := R1.mut (r' := .tab d0 P q) (o := .tbl ps') hi (List.mem_singleton.mpr rfl) (List.Sublist.refl _) hs ⟨⟨v, hv, rv.mono (Ex.new hGc)⟩, by rw [upd_ne (Ne.symm hcP)]; exact hG, hF, ps', upd_same, ht', fun pos cv hcv => by
      rcases ha' pos cv hcv with z | z
      · obtain ⟨c0, e1, e2⟩ := ha pos cv z
        exact ⟨c0, e1, Ex.new hGc _ _ e2⟩
      · exact ⟨c, z, upd_same⟩⟩
    rw [set_same hi, upd_comm hcP] at R2
    exact h F _ _ σ R2 Q' fun v d ρ' G' H' e R' hv q => k v d ρ' G' H' ((Ex.new hGc).trans e) R' hv q
/-- the data of such a slot is read as shared data is -/
theorem ew_varT {i : Nat} {d : D} {P : Addr} {q : Str} (h : ρ[i]? = some (.tab d P q)) (hq : Q d ρ) : EvW K (tVar i) ρ Q := fun F G H σ R Q' k => by
  obtain ⟨s, e, ⟨v, rfl, hv⟩, _⟩ := R.sl.get h
  exact ⟨v, e, k v d ρ G H (Ex.refl G) R hv hq⟩
end
end DL

set_option Elab.async false
set_option linter.all false
set_option maxRecDepth 100000
set_option maxHeartbeats 2000000
/-! try: return (told, work()) / except x as e: return (row, e.f) -/
namespace LamY
open PySem PySem.Spec PyProof.Rows L2 LamX
def TTried (K : PySem.W.Frag) (CS : Addr) (f told row : Str) : (XK → Hp → VK → Prop) → Hp → VK → Prop := fun tl H Q =>
  tl (fun cls d H' => ∃ b, PySem.W.exmOne K cls (.ref CS) = some b ∧ (b = true → cls = .ref CS ∧ ∃ (dd : Addr) (fs : List (Str × V)) (v : V), d = some dd ∧ H' dd = some (.xd fs) ∧ fs.lookup f = some v ∧ ∀ p, H' p = none → Q (.ref p) (upd H' p (.tup [.str row, v]))) ∧ (b = false → False)) H
    (fun v H' => [V.str told, v].length ≤ sizeLine ∧ ∀ p, H' p = none → Q (.ref p) (upd H' p (.tup [.str told, v])))
/-- a name that is bound, if the state has its slot -/
def tVarW (i : Nat) (a : Addr) : TE := fun σ H Q => (i < σ.length → σ[i]? = some (some (.ref a))) ∧ Q (.ref a) H
theorem pe_varW {X : Cx} {i : Nat} {a : Addr} {n : Str} {pos : Pos} (hi : X.N[i]? = some n) (hv : Vis X.env.scope n) (hd : (n == ("__debug__" : Str)) = false) (hc : (n == ("__classdict__" : Str)) = false) : PE X (.Name n pos) (tVarW i a) := by
  refine ⟨fun pins s σ H Q I h => ?_⟩
  obtain ⟨h1, h2⟩ := h
  have hl : i < σ.length := by rw [I.len]; exact (List.getElem?_eq_some_iff.mp hi).1
  exact (pe_var (pos := pos) (i := i) hi hv hd hc).run pins s σ H Q I ⟨.ref a, h1 hl, h2⟩
section
variable {X : Cx}
theorem tried_gives {Ng : List Str} {x a e n q f told row : Str} {sg : Scope} {g CS : Addr} {cdg : Value} {i j1 j2 kt kt2 : Nat} {p1 p2 p3 p4 p5 p6 p7 p8 p9 p10 p11 p12 p13 : Pos} (T : XfC X.K CS) (hno : PySem.W.findIn X.K (.ref CS) f = some none)
    (hge : sg.names.lookup e = some .globalImplicit) (hme : X.mg e = some (.ref CS)) (hde : (e == ("__debug__" : Str)) = false) (hN : Ng.Nodup) (hi : Ng[i]? = some n) (hln : sg.names.lookup n = some .local) (hnd : (n == ("__debug__" : Str)) = false) (hnc : (n == ("__classdict__" : Str)) = false)
    (h0 : ∀ f : Addr, (L2.start Ng [V.ref f])[0]? = some (some (V.ref f))) (hlen : ∀ f : Addr, i < (L2.start Ng [V.ref f]).length) :
    GivesTo X Ng x sg g cdg [.Try [.Return (some (.Tuple [.Constant (.str told) j1 p1, .Call (.Name a p2) [] [] p3] kt p4)) p5] [.ExceptHandler (some (.Name e p6)) (some n) [.Return (some (.Tuple [.Constant (.str row) j2 p7, .Attribute (.Name n p8) f p9] kt2 p10)) p11] p12] [] [] p13] a q (TTried X.K CS f told row) := by
  intro fl c' s H Q tl act hc h
  have hgl : Gl (cxOf C8.CX0 X.prog X.w X.K X.mg X.base Ng x sg g cdg X.A X.stack s H C8.E0).nox e := hge
  refine ⟨_, pss_one (ps_try_as (X := (cxOf C8.CX0 X.prog X.w X.K X.mg X.base Ng x sg g cdg X.A X.stack s H C8.E0).nox) (c := .ref CS) (i := i)
      (tb := fun W D σ H => ∃ Ech : XK, (∀ cls d σ' H', Ech cls d H' → W cls d σ' H') ∧ σ[0]? = some (some (.ref fl)) ∧ H c' = some (CodeO c' q) ∧ tl Ech H (fun v H' => [V.str told, v].length ≤ sizeLine ∧ ∀ p, H' p = none → D.rt (.ref p) (upd H' p (.tup [.str told, v]))))
      (ts := fun a cls d => tRet (tTup (tCons (tC (.str row)) (tCons (tXf a cls d CS f (tVarW i a)) tNil))))
      rfl rfl hN hi hln ⟨hgl, hde, .inl hme⟩ LamX.takes0 (fun W pn xe tk _ => ?_) (fun a oe cls d pn hz hf => pss_one (ps_ret (pe_tup (pa_cons pe_str (pa_cons (pe_xf T hno hz hf (pe_varW (a := a) hi (.inl hln) hnd hnc)) pa_nil)))))), ?_⟩
  · refine ⟨fun pins s' σ H' D I h' => ?_⟩
    obtain ⟨Ech, hW, h1, h2, h3⟩ := h'
    have hp := act W pn xe Ech p2 p3 tk hW
    have hq : PSs ((cxOf C8.CX0 X.prog X.w X.K X.mg X.base Ng x sg g cdg X.A X.stack s H C8.E0).tr pn xe) [.Return (some (.Tuple [.Constant (.str told) j1 p1, .Call (.Name a p2) [] [] p3] kt p4)) p5] _ := pss_one (ps_ret (pe_tup (pa_cons pe_str (pa_cons hp pa_nil))))
    exact hq.run pins s' σ H' D I ⟨h1, h2, h3⟩
  · refine ⟨_, fun cls d σ' H' hx => ?_, h0 fl, hc, h⟩
    obtain ⟨b, e1, e2, e3⟩ := hx
    refine ⟨b, e1, fun hb a ha => ?_, fun hb => e3 hb⟩
    obtain ⟨ec, dd, fs, v, ed, exd, el, eq⟩ := e2 hb
    exact ⟨fun hl => List.getElem?_set_self (by simpa using hl), rfl, ec, dd, fs, v, ed, exd, el, by show 2 ≤ sizeLine; decide, eq⟩
end
end LamY

set_option Elab.async false
set_option linter.all false
set_option maxRecDepth 100000
namespace DL
open PySem PySem.Spec PyProof.Rows L2 LamX LamY
section
variable {K : PySem.W.Frag} {ρ : Env} {Q : D → Env → Prop}
/-- own things hidden -/
def hide : Sl → Sl
  | .sh d => .sh d
  | .tab d _ _ => .sh d
  | _ => .un
theorem ownA_hide : ∀ ρ : Env, ownA (ρ.map hide) = []
  | [] => rfl
  | r :: ρ => by
    rw [List.map_cons, ownA_cons, ownA_hide ρ]
    cases r <;> rfl
/-- while a lambda runs, what is own stands in the frame -/
theorem RE.hid {F G H : Hp} {σ : L2.St} (R : RE K F G H σ ρ) : RE K (addF F H (ownA ρ)) G H σ (ρ.map hide) := by
  refine ⟨R.wdF (fun _ m => m), slots_map R.sl (fun i s r hs hr q => ?_), by rw [ownA_hide]; exact List.nodup_nil⟩
  cases r with
  | un => trivial
  | sh d => exact q
  | own a d => trivial
  | drw a => trivial
  | two p q' xs ys => trivial
  | tab d P q' => exact q.1
theorem el_tried {C f told row : Str} {t : XK → TE} (hex : PySem.W.exmOne K (.ref (He.ga K C)) (.ref (He.ga K C)) = some true)
    (h : ∀ W, EvX K (t W) W (ρ.map hide) (fun d ρ1 => Q (.tup [.str told, d]) ρ) (fun C' f' d => C' = C ∧ f' = f ∧ Q (.tup [.str row, d]) ρ)) : EvL K (TTried K (He.ga K C) f told row) t ρ Q := fun F G H σ R Q' k => by
  refine h _ _ G H σ R.hid (fun C' f' v d dx G' H' e W hx hg hf rv q => ?_) _ fun v d ρ' G' H' e R' hv q => ⟨by show 2 ≤ sizeLine; decide, fun p hp => ?_⟩
  · obtain ⟨rfl, rfl, q⟩ := q
    have R2 := R.back W e
    refine ⟨true, hex, fun _ => ⟨rfl, dx, _, v, rfl, hx, by simp [List.lookup], fun p hp => ?_⟩, fun z => (nomatch z)⟩
    have R3 := R2.new (o := .tup [.str row, v]) hp
    exact k (.ref p) (.tup [.str row, d]) ρ _ _ (e.trans (Ex.new (R2.wd.g.none hp))) R3 (.tup upd_same (.cons (.str _) (.cons (rv.mono (Ex.new (R2.wd.g.none hp))) .nil))) q
  · have R2 := R.back R'.wd e
    have R3 := R2.new (o := .tup [.str told, v]) hp
    exact k (.ref p) (.tup [.str told, d]) ρ _ _ (e.trans (Ex.new (R2.wd.g.none hp))) R3 (.tup upd_same (.cons (.str _) (.cons (hv.mono (Ex.new (R2.wd.g.none hp))) .nil))) q
end
end DL

set_option Elab.async false
set_option linter.all false
set_option maxRecDepth 100000
/-! the hook with the C statics and with tables of code objects -/
namespace He
open PySem PySem.Spec PyProof.Rows L2
def fragS (g : Addr → Option Obj) (n : Nat) : PySem.W.Frag := frT g (cStatics :: asD g n)
def obsXS (n : Nat) (fa : List Fa) (fn : List DefD) (tf : List Defn) (ex : PySem.W.Frag → Bool) (g : Addr → Option Obj) : AlX := (obsT fa fn [] (fragS g n), ex (fragS g n) && tabsB g tf (fragS g n))
theorem saysXS_of {n : Nat} {fa : List Fa} {fn : List DefD} {tf : List Defn} {ex : PySem.W.Frag → Bool} {w : World} {h : Heap} (e : obsXS n fa fn tf ex h.get? = valX fn [] w) : SaysX fa fn [] tf ex w h (fragS h.get? n) := by
  obtain ⟨h1, h2⟩ := ba (show (ex (fragS h.get? n) && tabsB h.get? tf (fragS h.get? n)) = true from congrArg (fun z : AlX => z.2) e)
  have all : ∀ p ∈ tf, PySem.W.codeHdIn (fragS h.get? n) (cT (fragS h.get? n) p).1 (cT (fragS h.get? n) p).2 = true ∧ ∃ o, h.get? (cT (fragS h.get? n) p).2 = some o ∧ emptyTab o = true := fun p hp => by
    obtain ⟨h3, h4⟩ := ba (List.all_eq_true.mp h2 p hp)
    split at h4
    · rename_i o q
      exact ⟨h3, o, q, h4⟩
    · cases h4
  refine ⟨congrArg (fun z : AlX => z.1) e, h1, fun p hp => (all p hp).1, fun p hp => ?_, fun p hp => ?_⟩
  · obtain ⟨_, o, q, z⟩ := all p hp
    exact frT_none q z
  · obtain ⟨_, o, q, z⟩ := all p hp
    rw [q, emptyTab_eq z]
def hookXS (n : Nat) (fa : List Fa) (fn : List DefD) (tf : List Defn) (ex : PySem.W.Frag → Bool) : PySem.W.Hook where
  α := AlX
  obs := fun s => obsXS n fa fn tf ex s.heap.get?
  val := fun w => valX fn [] w
  says := fun w h => ∃ K : PySem.W.Frag, K.In h ∧ SaysX fa fn [] tf ex w h K
  of := fun _ _ e => ⟨_, frT_in, saysXS_of e⟩
  keeps := fun _ _ _ ⟨K, hK, c⟩ k => ⟨K, PySem.W.Frag.In.keeps hK k, ⟨c.t, c.more, c.hd, c.out, fun p hp => k _ _ (c.empty p hp)⟩⟩
theorem obsXS_eq {n : Nat} {fa : List Fa} {fn : List DefD} {tf : List Defn} {ex : PySem.W.Frag → Bool} {g : Addr → Option Obj} {s : Shared} (h : ∀ a, g a = s.heap.get? a) : obsXS n fa fn tf ex g = (hookXS n fa fn tf ex).obs s := by
  have e : g = s.heap.get? := funext h
  rw [e] <;> rfl
end He

set_option Elab.async false
set_option linter.all false
set_option maxRecDepth 100000
set_option maxHeartbeats 2000000
/-! sorted of tuples of ints and texts -/
namespace SrtK
open PySem PySem.Spec PyProof.Rows L2 SrtO
/-! ### a stable sort as a function -/
section
variable {α : Type} {lt : α → α → Bool}
def ins (lt : α → α → Bool) (x : α) : List α → List α
  | [] => [x]
  | y :: l => if lt y x = true then y :: ins lt x l else x :: y :: l
def srt (lt : α → α → Bool) : List α → List α
  | [] => []
  | x :: l => ins lt x (srt lt l)
theorem ins_mem {x y : α} : ∀ {l : List α}, y ∈ ins lt x l → y = x ∨ y ∈ l
  | [], h => .inl (List.mem_singleton.mp h)
  | z :: l, h => by
    unfold ins at h
    split at h
    · rcases List.mem_cons.mp h with e | h
      · exact .inr (e ▸ List.mem_cons_self)
      · exact (ins_mem h).imp id (List.mem_cons_of_mem _)
    · exact List.mem_cons.mp h
theorem ins_srtd (O : Swo lt) {x : α} : ∀ {l : List α}, Srtd lt l → Srtd lt (ins lt x l)
  | [], _ => srtd_one x
  | y :: l, h => by
    obtain ⟨h1, h2⟩ := List.pairwise_cons.mp h
    unfold ins
    split
    · rename_i c
      refine List.pairwise_cons.mpr ⟨fun z hz => ?_, ins_srtd O h2⟩
      rcases ins_mem hz with e | hz
      · rw [e]; exact O.asym _ _ c
      · exact h1 z hz
    · rename_i c
      have c' : lt y x = false := by simpa using c
      refine List.pairwise_cons.mpr ⟨fun z hz => ?_, h⟩
      rcases List.mem_cons.mp hz with e | hz
      · rw [e]; exact c'
      · exact O.tr x y z c' (h1 z hz)
theorem ins_stb (O : Swo lt) {x : α} : ∀ {l : List α}, Stb lt (ins lt x l) (x :: l)
  | [] => Stb.refl _
  | y :: l => by
    unfold ins
    split
    · rename_i c
      have ih := ins_stb O (x := x) (l := l)
      refine ⟨(ih.perm.cons y).trans (List.Perm.swap x y l), fun z => ?_⟩
      have hz := ih.cls z
      rw [List.filter_cons, hz, List.filter_cons, List.filter_cons, List.filter_cons]
      cases h1 : eqv lt z y <;> cases h2 : eqv lt z x <;> try rfl
      exfalso
      obtain ⟨a1, a2⟩ := eqv_iff.mp h1
      obtain ⟨b1, b2⟩ := eqv_iff.mp h2
      have := O.tr x z y b1 a2
      rw [c] at this; cases this
    · exact Stb.refl _
theorem srt_srtd (O : Swo lt) : ∀ l : List α, Srtd lt (srt lt l)
  | [] => List.Pairwise.nil
  | x :: l => ins_srtd O (srt_srtd O l)
theorem Stb.symm {l m : List α} (h : Stb lt l m) : Stb lt m l := ⟨h.perm.symm, fun x => (h.cls x).symm⟩
theorem srt_stb (O : Swo lt) : ∀ l : List α, Stb lt (srt lt l) l
  | [] => Stb.refl _
  | x :: l => (ins_stb O).trans (show Stb lt ([x] ++ srt lt l) ([x] ++ l) from (Stb.refl [x]).app (srt_stb O l))
theorem srt_eq (O : Swo lt) {l m : List α} (h1 : Srtd lt m) (h2 : Stb lt m l) : m = srt lt l := stb_uniq O h1 (srt_srtd O l) (h2.trans (Stb.symm (srt_stb O l)))
theorem srt_perm (O : Swo lt) (l : List α) : (srt lt l).Perm l := (srt_stb O l).perm
theorem srt_map {β : Type} {lt' : β → β → Bool} (f : α → β) (h : ∀ x y, lt' (f x) (f y) = lt x y) : ∀ l : List α, srt lt' (l.map f) = (srt lt l).map f
  | [] => rfl
  | x :: l => by
    have key : ∀ l : List α, ins lt' (f x) (l.map f) = (ins lt x l).map f := by
      intro l
      induction l with
      | nil => rfl
      | cons y l ih =>
        rw [List.map_cons, ins, ins, h]
        split
        · rw [ih]; rfl
        · rfl
    rw [List.map_cons, srt, srt_map f h l, key]; rfl
end
/-! ### the order of keys -/
def kLt : Key → Key → Bool
  | .inl i, .inl j => decide (i < j)
  | .inr a, .inr b => decide (a.cps.toList < b.cps.toList)
  | .inl _, .inr _ => true
  | .inr _, .inl _ => false
theorem str_ext {a b : Str} (h : a.cps.toList = b.cps.toList) : a = b := by
  cases a; cases b
  simp only [Str.mk.injEq]
  exact Array.toList_inj.mp h
theorem kLt_asym {x y : Key} (h : kLt x y = true) : kLt y x = false := by
  cases x with
  | inl i => cases y with
    | inl j => simp only [kLt, decide_eq_true_eq, decide_eq_false_iff_not] at h ⊢; omega
    | inr b => rfl
  | inr a => cases y with
    | inl j => cases h
    | inr b =>
      simp only [kLt, decide_eq_true_eq, decide_eq_false_iff_not] at h ⊢
      exact fun z => List.lt_irrefl _ (List.lt_trans h z)
theorem kLt_trans {x y z : Key} (h : kLt x y = true) (g : kLt y z = true) : kLt x z = true := by
  cases x with
  | inl i => cases y with
    | inl j => cases z with
      | inl k => simp only [kLt, decide_eq_true_eq] at h g ⊢; omega
      | inr c => rfl
    | inr b => cases z with
      | inl k => cases g
      | inr c => rfl
  | inr a => cases y with
    | inl j => cases h
    | inr b => cases z with
      | inl k => cases g
      | inr c => simp only [kLt, decide_eq_true_eq] at h g ⊢; exact List.lt_trans h g
theorem kLt_total {x y : Key} (n : x ≠ y) (h : kLt x y = false) : kLt y x = true := by
  cases x with
  | inl i => cases y with
    | inl j =>
      simp only [kLt, decide_eq_true_eq, decide_eq_false_iff_not] at h ⊢
      have : i ≠ j := fun z => n (by rw [z])
      omega
    | inr b => cases h
  | inr a => cases y with
    | inl j => rfl
    | inr b =>
      simp only [kLt, decide_eq_true_eq, decide_eq_false_iff_not] at h ⊢
      by_cases g : b.cps.toList < a.cps.toList
      · exact g
      · exact absurd (congrArg Sum.inr (str_ext (List.le_antisymm (List.not_lt.mp g) (List.not_lt.mp h)))) n
theorem kLt_irr (x : Key) : kLt x x = false := by
  cases h : kLt x x with
  | false => rfl
  | true => rw [kLt_asym h] at h; cases h
def lexK : List Key → List Key → Bool
  | [], [] => false
  | [], _ :: _ => true
  | _ :: _, [] => false
  | x :: xs, y :: ys => if x = y then lexK xs ys else kLt x y
theorem lexK_asym : ∀ {x y : List Key}, lexK x y = true → lexK y x = false
  | [], [], h => by cases h
  | [], _ :: _, _ => rfl
  | _ :: _, [], h => by cases h
  | x :: xs, y :: ys, h => by
    unfold lexK at h ⊢
    by_cases e : x = y
    · rw [if_pos e] at h; rw [if_pos e.symm]; exact lexK_asym h
    · rw [if_neg e] at h; rw [if_neg (Ne.symm e)]; exact kLt_asym h
theorem lexK_tr : ∀ {x y z : List Key}, lexK y x = false → lexK z y = false → lexK z x = false
  | [], [], [], _, _ => rfl
  | [], [], _ :: _, _, _ => rfl
  | [], _ :: _, [], _, h => by cases h
  | [], _ :: _, _ :: _, _, _ => rfl
  | _ :: _, [], _, h, _ => by cases h
  | _ :: _, _ :: _, [], _, h => by cases h
  | x :: xs, y :: ys, z :: zs, h, g => by
    unfold lexK at h g ⊢
    by_cases e : y = x
    · subst e
      rw [if_pos rfl] at h
      by_cases f : z = y
      · rw [if_pos f] at g ⊢; exact lexK_tr h g
      · rw [if_neg f] at g ⊢; exact g
    · rw [if_neg e] at h
      have h' := kLt_total e h
      by_cases f : z = y
      · subst f
        rw [if_neg e]; exact h
      · rw [if_neg f] at g
        have g' := kLt_total f g
        have k := kLt_trans h' g'
        have ne : z ≠ x := fun q => by rw [q, kLt_irr] at k; cases k
        rw [if_neg ne]; exact kLt_asym k
theorem lexK_anti : ∀ {x y : List Key}, lexK x y = false → lexK y x = false → x = y
  | [], [], _, _ => rfl
  | [], _ :: _, h, _ => by cases h
  | _ :: _, [], _, h => by cases h
  | x :: xs, y :: ys, h, g => by
    unfold lexK at h g
    by_cases e : x = y
    · subst e
      rw [if_pos rfl] at h g
      rw [lexK_anti h g]
    · rw [if_neg e] at h
      rw [if_neg (Ne.symm e)] at g
      rw [kLt_total e h] at g; cases g
theorem lexK_swo : Swo lexK := ⟨fun _ _ h => lexK_asym h, fun _ _ _ h g => lexK_tr h g⟩
/-- sorted keys, ascending -/
def srtK (ks : List (List Key)) : List (List Key) := srt lexK ks
/-- which of a tuple's items are ints -/
def isL : Key → Bool
  | .inl _ => true
  | .inr _ => false
def shp (ks : List Key) : List Bool := ks.map isL
/-! ### in the model -/
section
variable {prog : Program} {w : World} {A : Around} {E : Value → Shared → Prop} {s : Shared}
theorem oneLt_strs (c : Bool) {p q : Str} {t u : Tok} {Q : Bool → Shared → Prop} (h : Q (decide (p.cps.toList < q.cps.toList)) s) : wpAny (model prog w) A (oneLt' c (.str p t) (.str q u)) Q E s := by
  cases c with
  | true => exact oneLt_str h
  | false => exact PySem.W.kat_one _ _ (PyProof.Rows.lt_str h)
theorem oneLt_intsC (c : Bool) {p q : Int} {t u : Tok} {Q : Bool → Shared → Prop} (h : Q (decide (p < q)) s) : wpAny (model prog w) A (oneLt' c (.int p t) (.int q u)) Q E s := by
  cases c with
  | true => exact oneLt_int h
  | false => exact PySem.W.kat_one _ _ (PyProof.Rows.lt_int h)
theorem katlex {b : Bool} {Q : Bool → Shared → Prop} : ∀ {ks js : List Key} {us ws : List Value} (i : Nat), Vals (ks.map kV) us → Vals (js.map kV) ws → shp ks = shp js → Q (lexK ks js) s → PySem.W.KatLex prog w A b false Q (us.zip ws) i s
  | [], [], _, _, i, .nil, .nil, _, h => PySem.W.kat_nil h
  | [], _ :: _, _, _, i, _, _, e, h => by cases e
  | _ :: _, [], _, _, i, _, _, e, h => by cases e
  | .inl x :: ks, .inl y :: js, _, _, i, .cons r1 t1, .cons r2 t2, e, h => by
    obtain ⟨a, rfl⟩ := r1
    obtain ⟨c, rfl⟩ := r2
    have e' : shp ks = shp js := (List.cons.inj e).2
    refine PySem.W.kat_cons (SeqAt.EqAt.int_int x a y c prog w _ _ ?_)
    refine PySem.W.kat_go (fun e1 => ?_) (fun e1 => ?_)
    · have ex : x = y := by simpa using e1
      refine PySem.W.kat_yes (katlex (i + 1) t1 t2 e' ?_)
      rw [lexK, if_pos (by rw [ex])] at h; exact h
    · have ex : ¬ x = y := by simpa using e1
      refine PySem.W.kat_no (oneLt_intsC _ ?_)
      rw [lexK, if_neg (fun z => ex (Sum.inl.inj z))] at h; exact h
  | .inr x :: ks, .inr y :: js, _, _, i, .cons r1 t1, .cons r2 t2, e, h => by
    obtain ⟨a, rfl⟩ := r1
    obtain ⟨c, rfl⟩ := r2
    have e' : shp ks = shp js := (List.cons.inj e).2
    refine PySem.W.kat_cons (SeqAt.EqAt.str_str x a y c prog w _ _ ?_)
    refine PySem.W.kat_go (fun e1 => ?_) (fun e1 => ?_)
    · have ex : x = y := by simpa using e1
      refine PySem.W.kat_yes (katlex (i + 1) t1 t2 e' ?_)
      rw [lexK, if_pos (by rw [ex])] at h; exact h
    · have ex : ¬ x = y := by simpa using e1
      refine PySem.W.kat_no (oneLt_strs _ ?_)
      rw [lexK, if_neg (fun z => ex (Sum.inr.inj z))] at h; exact h
  | .inl x :: ks, .inr y :: js, _, _, i, _, _, e, h => by cases (List.cons.inj e).1
  | .inr x :: ks, .inl y :: js, _, _, i, _, _, e, h => by cases (List.cons.inj e).1
/-- v is a tuple of these keys -/
def TupK (h : Heap) (v : Value) (ks : List Key) : Prop := ∃ a o its n, v = .ref a ∧ h.get? a = some o ∧ o.cls = .type "tuple" ∧ o.data = .seq its n ∧ Vals (ks.map kV) its.toList
theorem TupK.keeps {h h' : Heap} {v : Value} {ks : List Key} (t : TupK h v ks) (k : ∀ b o, h.get? b = some o → o.cls = .type "tuple" → h'.get? b = some o) : TupK h' v ks := by
  obtain ⟨a, o, its, n, e, ho, hc, hd, r⟩ := t
  exact ⟨a, o, its, n, e, k _ _ ho hc, hc, hd, r⟩
theorem tup_cmp {vs : List Value} {k : Value → List Key} {sh : List Bool} (hp : ∀ v ∈ vs, TupK s.heap v (k v) ∧ shp (k v) = sh) : Cmp prog w A s (tuples' true) (fun p => p.1 ∈ vs) (lt2 fun v u => lexK (k v) (k u)) := by
  intro p q hm hm'
  obtain ⟨⟨a, o, its, n, e, ho, hc, hd, r⟩, s1⟩ := hp _ hm
  obtain ⟨⟨a', o', its', n', e', ho', hc', hd', r'⟩, s2⟩ := hp _ hm'
  show wpAny (model prog w) A (keyLt' (tuples' true) p.1 q.1) (fun r s' => s' = s ∧ r = lexK (k p.1) (k q.1)) (fun _ _ => False) s
  have kk := katlex (prog := prog) (w := w) (A := A) (s := s) (b := true) (Q := fun r s' => s' = s ∧ r = lexK (k p.1) (k q.1)) 0 r r' (s1.trans s2.symm) ⟨rfl, rfl⟩
  have hl : its.size = its'.size := by
    have l1 := r.length
    have l2 := r'.length
    have l3 := congrArg List.length (s1.trans s2.symm)
    unfold shp at l3
    rw [List.length_map, List.length_map] at l3
    rw [List.length_map] at l1 l2
    have q1 : its.toList.length = its.size := Array.length_toList
    have q2 : its'.toList.length = its'.size := Array.length_toList
    omega
  have hf : (decide (its.size < its'.size)) = false := by rw [hl]; exact decide_eq_false (Nat.lt_irrefl _)
  rw [e, e']
  refine PySem.W.kat_lt ho hd ho' hd' ?_
  rw [hf]
  rw [e, e'] at kk
  exact kk
theorem firstsK {h : Heap} {b : Bool} {sr : List Bool} : ∀ {vs : List Value}, (∀ v ∈ vs, ∃ ks, TupK h v ks ∧ shp ks = b :: sr) → ∃ fs : List Value, PySem.W.KatTups h vs fs ∧ fs.length = vs.length ∧ ∀ f ∈ fs, ∃ M : Model → Prop, (∀ M' : Model, PySem.W.Looks M' h (typeOf f) (.type (if b then "int" else "str")))
  | [], _ => ⟨[], PySem.W.KatTups.nil, rfl, fun _ hm => by simp at hm⟩
  | v :: vs, hp => by
    obtain ⟨fs, h1, h2, h3⟩ := firstsK (vs := vs) fun v' hm => hp v' (List.mem_cons_of_mem _ hm)
    obtain ⟨ks, ⟨a, o, its, n, e, ho, hc, hd, r⟩, hs⟩ := hp v List.mem_cons_self
    subst e
    cases ks with
    | nil => cases hs
    | cons k ks =>
      have hb : isL k = b := (List.cons.inj hs).1
      rw [List.map_cons] at r
      obtain ⟨f, rest, hit, rf⟩ : ∃ f rest, its.toList = f :: rest ∧ RelV (kV k) f := by
        cases hq : its.toList with
        | nil => rw [hq] at r; cases r
        | cons f rest => rw [hq] at r; cases r with | cons r1 _ => exact ⟨f, rest, rfl, r1⟩
      have hf0 : its[0]? = some f := by
        rw [← Array.getElem?_toList, hit]; rfl
      refine ⟨f :: fs, PySem.W.KatTups.cons ho hc hd hf0 h1, by rw [List.length_cons, List.length_cons, h2], fun g hm => ?_⟩
      rcases List.mem_cons.mp hm with rfl | hm
      · refine ⟨fun _ => True, fun M' => ?_⟩
        cases k with
        | inl i => obtain ⟨t, rfl⟩ := rf; subst hb; exact PySem.W.Looks.now
        | inr x => obtain ⟨t, rfl⟩ := rf; subst hb; exact PySem.W.Looks.now
      · exact h3 g hm
theorem tups_sortable {a : Addr} {vs : List Value} {k : Value → List Key} {b : Bool} {sr : List Bool} (h0 : 0 < vs.length) (hp : ∀ v ∈ vs, TupK s.heap v (k v) ∧ shp (k v) = b :: sr) (ha : ∀ o, s.heap.get? a = some o → o.cls ≠ .type "tuple") : SortableO prog w A s a vs fun v u => lexK (k v) (k u) := by
  intro h' keep
  have hp' : ∀ v ∈ vs, TupK h' v (k v) ∧ shp (k v) = b :: sr := fun v hm => ⟨(hp v hm).1.keeps fun b o e c => keep b o (fun z => by subst z; exact ha o e c) e, (hp v hm).2⟩
  obtain ⟨fs, h1, h2, h3⟩ := firstsK fun v hm => ⟨_, hp' v hm⟩
  refine ⟨tuples' true, fun Q E hq => ?_, tup_cmp hp'⟩
  refine PySem.W.kat_kind (T := .type (if b then "int" else "str")) h1 (by omega) (fun f hm => ?_) (by cases b <;> rfl) ?_
  · obtain ⟨_, hh⟩ := h3 f hm
    exact hh _
  · have e : (Value.type (if b then "int" else "str") != Value.type "tuple") = true := by cases b <;> decide +kernel
    rw [e]
    exact hq
theorem swo_on {α β : Type} {lt : β → β → Bool} (O : Swo lt) (f : α → β) : Swo fun x y => lt (f x) (f y) := ⟨fun x y => O.asym (f x) (f y), fun x y z => O.tr (f x) (f y) (f z)⟩
end
end SrtK

set_option Elab.async false
set_option linter.all false
set_option maxRecDepth 100000
set_option maxHeartbeats 2000000
namespace SrtK
open PySem PySem.Spec PyProof.Rows L2 SrtO
theorem kV_inj {x y : Key} (h : kV x = kV y) : x = y := by
  cases x <;> cases y <;> first | (cases h; rfl) | (cases h; done)
theorem kVs_inj : ∀ {x y : List Key}, x.map kV = y.map kV → x = y
  | [], [], _ => rfl
  | [], _ :: _, h => by cases h
  | _ :: _, [], h => by cases h
  | x :: xs, y :: ys, h => by
    have h' := List.cons.inj h
    rw [kV_inj h'.1, kVs_inj h'.2]
open Classical in
noncomputable def keyAt (H : Hp) (v : Value) : List Key := if h : ∃ (ks : List Key) (a : Addr), v = .ref a ∧ H a = some (.tup (ks.map kV)) then h.choose else []
theorem keyAt_eq {H : Hp} {a : Addr} {ks : List Key} (h : H a = some (.tup (ks.map kV))) : keyAt H (.ref a) = ks := by
  have ex : ∃ (ks : List Key) (b : Addr), (Value.ref a) = .ref b ∧ H b = some (.tup (ks.map kV)) := ⟨ks, a, rfl, h⟩
  unfold keyAt
  rw [dif_pos ex]
  obtain ⟨b, e, hb⟩ := ex.choose_spec
  cases e
  rw [h] at hb
  exact (kVs_inj (HO.tup.inj (Option.some.inj hb))).symm
/-- the addresses bs hold tuples of the keys ks -/
def KeysAt (H : Hp) (bs : List Addr) (ks : List (List Key)) : Prop := Paired (fun b k => H b = some (.tup (k.map kV))) bs ks
theorem KeysAt.key {H : Hp} : ∀ {bs : List Addr} {ks : List (List Key)}, KeysAt H bs ks → (bs.map Value.ref).map (keyAt H) = ks
  | _, _, .nil => rfl
  | _, _, .cons h r => by rw [List.map_cons, List.map_cons, keyAt_eq h, KeysAt.key r]
theorem KeysAt.mem {H : Hp} : ∀ {bs : List Addr} {ks : List (List Key)}, KeysAt H bs ks → ∀ v ∈ bs.map Value.ref, ∃ a, v = .ref a ∧ a ∈ bs ∧ H a = some (.tup ((keyAt H v).map kV)) ∧ keyAt H v ∈ ks
  | _, _, .nil, v, m => by cases m
  | _, _, .cons h r, v, m => by
    rw [List.map_cons] at m
    rcases List.mem_cons.mp m with e | m
    · subst e
      exact ⟨_, rfl, List.mem_cons_self, by rw [keyAt_eq h]; exact h, by rw [keyAt_eq h]; exact List.mem_cons_self⟩
    · obtain ⟨a, e, ma, h1, h2⟩ := KeysAt.mem r v m
      exact ⟨a, e, List.mem_cons_of_mem _ ma, h1, List.mem_cons_of_mem _ h2⟩
theorem keysAt_of {H : Hp} : ∀ {out : List Value}, (∀ v ∈ out, ∃ a, v = .ref a ∧ H a = some (.tup ((keyAt H v).map kV))) → ∃ bs : List Addr, out = bs.map Value.ref ∧ KeysAt H bs (out.map (keyAt H))
  | [], _ => ⟨[], rfl, .nil⟩
  | v :: out, h => by
    obtain ⟨bs, e, k⟩ := keysAt_of (out := out) fun u hu => h u (List.mem_cons_of_mem _ hu)
    obtain ⟨a, rfl, ha⟩ := h v List.mem_cons_self
    exact ⟨a :: bs, by rw [List.map_cons, ← e], .cons ha k⟩
theorem sort_core {H : Hp} {bs0 : List Addr} {ks0 : List (List Key)} (k0 : KeysAt H bs0 ks0) {out : List Value} (h1 : Srtd (fun v u => lexK (keyAt H v) (keyAt H u)) out) (h2 : Stb (fun v u => lexK (keyAt H v) (keyAt H u)) out (bs0.map Value.ref)) :
    ∃ bs : List Addr, out = bs.map Value.ref ∧ KeysAt H bs (srtK ks0) ∧ bs.length = bs0.length := by
  obtain ⟨bs, e, k⟩ := keysAt_of (H := H) (out := out) fun v hv => by
    obtain ⟨a, e, _, h, _⟩ := k0.mem v (h2.perm.mem_iff.mp hv)
    exact ⟨a, e, h⟩
  have es : out.map (keyAt H) = srtK ks0 := by
    have z := srt_eq lexK_swo (srtd_map h1) (Stb.map lexK_swo (keyAt H) h2)
    rw [k0.key] at z
    exact z
  rw [es] at k
  refine ⟨bs, e, k, ?_⟩
  have l := h2.perm.length_eq
  rw [e, List.length_map, List.length_map] at l
  exact l
section
variable {X : Cx}
theorem tupK_of {pins : List (Addr × Obj)} {σ : L2.St} {H : Hp} {s : Shared} (I : Inv X pins σ H s) {a : Addr} {ks : List Key} (h : H a = some (.tup (ks.map kV))) : TupK s.heap (.ref a) ks := by
  obtain ⟨_, its, r, o, h1, h2, n, h3⟩ := (show ObjOk X.prog X.w H s.heap a (.tup (ks.map kV)) from I.hok a _ h)
  exact ⟨a, o, its.toArray, n, rfl, h1, h2, h3, by simpa using r⟩
/-- sorted(xs), xs a list of tuples of ints and texts, all of one shape -/
def rSortKL (K : PySem.W.Frag) : List V → Hp → VK → Prop := fun xs H Q => ∃ (a : Addr) (bs0 : List Addr) (ks0 : List (List Key)) (b : Bool) (sr : List Bool), xs = [.ref a] ∧ SqL K H a (bs0.map V.ref) ∧ KeysAt H bs0 ks0 ∧ (∀ k ∈ ks0, shp k = b :: sr) ∧
  ∀ (bs : List Addr) (p : Addr), KeysAt H bs (srtK ks0) → H p = none → Q (.ref p) (upd H p (.lst (bs.map V.ref)))
theorem vals_ref : ∀ bs : List Addr, Vals (bs.map V.ref) (bs.map Value.ref)
  | [] => .nil
  | b :: bs => .cons rfl (vals_ref bs)
theorem vals_ref_inv : ∀ {bs : List Addr} {us : List Value}, Vals (bs.map V.ref) us → us = bs.map Value.ref
  | [], _, r => by cases r; rfl
  | b :: bs, _, r => by
    rw [List.map_cons] at r
    cases r with
    | cons r1 r2 =>
      cases r1
      rw [List.map_cons, vals_ref_inv r2]
theorem cr_sortKL : CallR X (.builtin "sorted") (rSortKL X.K) := by
  intro pins s σ H vs us Q I r h
  obtain ⟨a, bs0, ks0, b, sr, rfl, hs, k0, hsh, q⟩ := h
  obtain ⟨its, rv, hl, hz⟩ := I.list hs
  rw [Vals.ref1 r]
  have ei := vals_ref_inv rv
  subst ei
  rw [List.length_map] at hz
  refine SrtO.sorted_ord (swo_on lexK_swo (keyAt H)) hl.isList (by rw [List.length_map]; exact hz) (fun h2 h₁ a' ha kk => ?_) fun out h1 h2 => ?_
  · refine tups_sortable (b := b) (sr := sr) (s := { s with heap := h₁ }) (by omega) (fun v hm => ?_) fun o e => ?_
    · obtain ⟨c, e, _, hc, hk⟩ := k0.mem v hm
      subst e
      exact ⟨(tupK_of I hc).keeps fun b o e _ => (kk b o e).2, hsh _ hk⟩
    · have e' : some o = some (seqObj "list" (bs0.map Value.ref).toArray 0) := e.symm.trans ha
      cases e'
      intro c
      exact absurd (Value.type.inj c) (by decide)
  · obtain ⟨bs, e, k, hlen⟩ := sort_core k0 h1 h2
    obtain ⟨n, hn⟩ := PyProof.Rows.sortedAll_at s.heap (bs0.map Value.ref) out.toArray
    refine ⟨.ref _, upd H (s.heap.objs.size + 1) (.lst (bs.map V.ref)), I.laid (t' := s.toks) (fun _ _ => PyProof.Rows.sortedAll_old) (Nat.le_succ _) ⟨by rw [List.length_map, hlen]; exact hz, out, n, by rw [e]; exact vals_ref bs, hn⟩, rfl, q bs _ k (I.hok.fresh (Nat.le_succ _))⟩
/-- sorted(d), d a dict with such keys -/
def rSortKD : List V → Hp → VK → Prop := fun xs H Q => ∃ (a : Addr) (kvs : List (List Key × V)) (b : Bool) (sr : List Bool), xs = [.ref a] ∧ Rd H a (.dT kvs) ∧ (∀ k ∈ kvs.map (·.1), shp k = b :: sr) ∧
  ∀ (bs : List Addr) (p : Addr), KeysAt H bs (srtK (kvs.map (·.1))) → H p = none → Q (.ref p) (upd H p (.lst (bs.map V.ref)))
theorem keysAt_isKeys {H : Hp} : ∀ {kvs : List (List Key × V)} {bs : List Addr}, IsKeys H kvs bs → KeysAt H bs (kvs.map (·.1))
  | _, _, .nil => .nil
  | _, _, .cons h r => .cons h (keysAt_isKeys r)
theorem cr_sortKD (hc : X.calm = true) : CallR X (.builtin "sorted") rSortKD := by
  intro pins s σ H xs us Q I r h
  obtain ⟨d, kvs, b, sr, rfl, hd, hsh, q⟩ := h
  rw [Vals.ref1 r]
  obtain ⟨z, hs, ks, pr, o, es, ep, ho, hx, hdt, he, hn⟩ := (show ObjOk X.prog X.w H s.heap d (.dT kvs) from hd.ok I.hok)
  have l1 : es.size = ks.length := size_of_entries he
  have l2 : kvs.length = ks.length := Paired.length pr
  have k0 : KeysAt H (ks.map fun x => x.2.1) (kvs.map (·.1)) := keysAt_isKeys (isKeys_of pr)
  refine Calls.call_function_entry PyProof.Rows.kind_sorted PyProof.Rows.plain_sorted PyProof.Rows.entry_sorted (PyProof.Rows.args_sorted1 _) ?_
  unfold Builtin.«sorted»
  refine wpAny_bind (m := checkCount "sorted" 1 1 _) (wpAny_pure ?_)
  refine wpAny_bind (PySem.W.kdu_collect (A := X.A.in1) (kdl_raw hs hx hdt) (I.ok.hd hc) ho (by omega) fun h' tk acc' kp it => ?_)
  have ea : acc'.toList = (ks.map fun x => x.2.1).map Value.ref := by
    have hl : acc'.toList.length = ks.length := by rw [Array.length_toList, it.1]; exact l1
    apply List.ext_getElem?
    intro j
    rw [List.getElem?_map, List.getElem?_map]
    cases hj : acc'.toList[j]? with
    | none =>
      have h1 := List.getElem?_eq_none_iff.mp hj
      rw [List.getElem?_eq_none (by omega)]
      all_goals rfl
    | some v =>
      obtain ⟨en, hen, hv⟩ := it.2 j v (by rw [← Array.getElem?_toList]; exact hj)
      have qe := entry_at he j
      rw [hen] at qe
      cases hb : ks[j]? with
      | none =>
        rw [hb] at qe
        exact nomatch (show some en = none from qe)
      | some b =>
        rw [hb] at qe
        have e2 : en = entryOfKey (tupleKind (mixKind X.prog X.w)) b := Option.some.inj qe
        rw [hv, e2]
        all_goals rfl
  have hz : acc'.toList.length ≤ sizeLine := by rw [ea, List.length_map, List.length_map]; omega
  have I1 : Inv X pins σ H { s with heap := h', toks := tk } := I.kept kp
  refine wpAny_bind (wpAny_newList ?_ hz)
  have hoL : (h'.push (seqObj "list" acc'.toList.toArray 0)).get? h'.objs.size = some (seqObj "list" acc'.toList.toArray 0) := Heap.get?_push_size _ rfl
  show wpAny _ _ _ _ _ { s with heap := h'.push (seqObj "list" acc'.toList.toArray 0), toks := tk }
  refine wpAny_bind (wpAny_holding (wpAny_call_entry PyProof.Rows.slot_list_sort ⟨_, hoL, rfl⟩ PyProof.Rows.entry_list_sort
    (SrtO.list_sort_ord (s := { s with heap := h'.push (seqObj "list" acc'.toList.toArray 0), toks := tk }) (swo_on lexK_swo (keyAt H)) hoL hz (fun h2 => ?_) fun out h1 h2 => ⟨_, rfl, ?_⟩)
    (PyProof.Rows.args_list_sort _)))
  · refine tups_sortable (b := b) (sr := sr) (by omega) (fun v hm => ?_) fun o e => ?_
    · rw [ea] at hm
      obtain ⟨c, e, _, hc, hk⟩ := k0.mem v hm
      subst e
      exact ⟨(tupK_of I1 hc).keeps fun b o e _ => Heap.get?_push_of_some _ e, hsh _ hk⟩
    · have e' : some o = some (seqObj "list" acc'.toList.toArray 0) := e.symm.trans hoL
      cases e'
      intro c
      exact absurd (Value.type.inj c) (by decide)
  · rw [ea] at h2
    obtain ⟨bs, e, k, hlen⟩ := sort_core k0 h1 h2
    obtain ⟨e', he'⟩ := PyProof.Rows.sortedHeap_at (vs := acc'.toList) (out := out.toArray) hoL
    refine wpAny_pure ⟨_, rfl, .ref h'.objs.size, upd H h'.objs.size (.lst (bs.map V.ref)), I1.laid (t' := tk) (fun b u e => ?_) (Nat.le_refl _)
      (show ObjOk X.prog X.w _ _ _ (.lst (bs.map V.ref)) from ⟨by rw [List.length_map, hlen, List.length_map]; omega, out, e', by rw [e]; exact vals_ref bs, he'⟩), rfl, q bs _ k (I1.hok.fresh (Nat.le_refl _))⟩
    have hb : b < h'.objs.size := Heap.lt_size e
    rw [PyProof.Rows.sortedHeap_old (Nat.ne_of_lt hb) (by rw [size_push']; exact Nat.lt_succ_of_lt hb)]
    exact Heap.get?_push_of_some _ e
end
end SrtK

set_option Elab.async false
set_option linter.all false
set_option maxRecDepth 100000
set_option maxHeartbeats 2000000
namespace SrtK
open PySem PySem.Spec PyProof.Rows L2 SrtO
def mergeT {α : Type} (kvs more : List (List Key × V)) : List (List Key × V) := more.foldl (fun acc kv => putK acc kv.1 kv.2) kvs
theorem putK_len {κ : Type} [DecidableEq κ] (kvs : List (κ × V)) (k : κ) (v : V) : (putK kvs k v).length ≤ kvs.length + 1 := by
  unfold putK
  split
  · rw [List.length_map]; omega
  · simp
section
variable {X : Cx}
/-- dict(xs), xs a list of pairs of a tuple and a value -/
def rDictT (K : PySem.W.Frag) : List V → Hp → VK → Prop := fun xs H Q => ∃ (a : Addr) (ps : List Addr) (kvs : List (List Key × Addr × V)), xs = [.ref a] ∧ SqL K H a (ps.map V.ref) ∧ Paired (fun p kv => H p = some (.tup [.ref kv.2.1, kv.2.2]) ∧ H kv.2.1 = some (.tup (kv.1.map kV))) ps kvs ∧
  ∀ p, H p = none → Q (.ref p) (upd H p (.dT ((kvs.map fun x => (x.1, x.2.2)).foldl (fun acc kv => putK acc kv.1 kv.2) [])))
theorem pairs_t {pins : List (Addr × Obj)} {σ : L2.St} {H : Hp} {s : Shared} (I : Inv X pins σ H s) : ∀ {ps : List Addr} {kvs : List (List Key × Addr × V)}, Paired (fun p kv => H p = some (.tup [.ref kv.2.1, kv.2.2]) ∧ H kv.2.1 = some (.tup (kv.1.map kV))) ps kvs →
    ∃ prs : List (List Key × Addr × Value), Paired (fun (p : List Key × Addr × V) (q : List Key × Addr × Value) => p.1 = q.1 ∧ p.2.1 = q.2.1 ∧ RelV p.2.2 q.2.2) kvs prs ∧ prs.length = ps.length ∧ ∀ (j : Nat) (q : List Key × Addr × Value), prs[j]? = some q → ∃ b : Addr, ps[j]? = some b ∧ s.heap.IsTuple b #[.ref q.2.1, q.2.2] ∧ H q.2.1 = some (.tup (q.1.map kV))
  | _, _, .nil => ⟨[], .nil, rfl, fun j q e => by simp at e⟩
  | _, _, .cons (a := p) (b := kv) h t => by
    obtain ⟨prs, r, hl, hp⟩ := pairs_t I t
    obtain ⟨h, hk⟩ := h
    obtain ⟨_, its, rv, o, h1, h2, n, h3⟩ := (show ObjOk X.prog X.w H s.heap p (.tup [.ref kv.2.1, kv.2.2]) from I.hok p _ h)
    obtain ⟨u, y, ei, ru, ry⟩ := vals2 rv
    subst ei
    cases ru
    refine ⟨(kv.1, kv.2.1, y) :: prs, .cons ⟨rfl, rfl, ry⟩ r, by rw [List.length_cons, List.length_cons, hl], fun j q e => ?_⟩
    cases j with
    | zero =>
      have e' : (kv.1, kv.2.1, y) = q := Option.some.inj e
      subst e'
      exact ⟨p, rfl, ⟨o, h1, h2, n, h3⟩, hk⟩
    | succ j =>
      obtain ⟨b, e1, e2, e3⟩ := hp j q (by simpa using e)
      exact ⟨b, by simpa using e1, e2, e3⟩
theorem kt_all {H : Hp} : ∀ {kvs : List (List Key × Addr × V)} {prs : List (List Key × Addr × Value)} {acc : List (List Key × V)} {xs : List (List Key × Addr × Value)}, Paired (fun (p : List Key × Addr × V) (q : List Key × Addr × Value) => p.1 = q.1 ∧ p.2.1 = q.2.1 ∧ RelV p.2.2 q.2.2) kvs prs →
    (∀ q ∈ prs, H q.2.1 = some (.tup (q.1.map kV))) → KT H acc xs → KT H ((kvs.map fun x => (x.1, x.2.2)).foldl (fun acc kv => putK acc kv.1 kv.2) acc) (storedAllH xs prs)
  | _, _, acc, xs, .nil, _, r => r
  | _, _, acc, xs, .cons (a := p) (b := q) h t, hk, r => by
    obtain ⟨e1, e2, e3⟩ := h
    have hq := hk q List.mem_cons_self
    have := kt_all (H := H) t (fun z hz => hk z (List.mem_cons_of_mem _ hz)) (r.put q.1 hq e3)
    rw [List.map_cons, List.foldl_cons, e1]
    exact this
theorem call_dictT (hc : X.calm = true) (hu : X.A.units + 64 < cLine) : CallR X (.type "dict") (rDictT X.K) := by
  intro pins s σ H xs us Q I r q
  obtain ⟨a, ps, kvs, rfl, hq, hp, q⟩ := q
  rw [Vals.ref1 r]
  obtain ⟨its, rv, pl, hz⟩ := I.list hq
  have ei := vals_ref_inv rv
  subst ei
  rw [List.length_map] at hz
  obtain ⟨prs, rel, hl, hpr⟩ := pairs_t I hp
  obtain ⟨o, n, ho, hcl, hd, hdat⟩ := pl
  have hks : ∀ x ∈ prs, H x.2.1 = some (.tup (x.1.map kV)) := fun x hx => by
    obtain ⟨j, hj⟩ := List.mem_iff_getElem?.mp hx
    obtain ⟨_, _, _, h⟩ := hpr j x hj
    exact h
  let vps : List (Value × Value) := prs.map fun x => (Value.ref x.2.1, x.2.2)
  have hvl : vps.length = ps.length := by rw [List.length_map]; exact hl
  have hat : ∀ (j : Nat) (k v : Value), vps[j]? = some (k, v) → ∃ x, prs[j]? = some x ∧ k = .ref x.2.1 ∧ v = x.2.2 := fun j k v e => by
    rw [List.getElem?_map] at e
    obtain ⟨x, h1, h2⟩ := Option.map_eq_some_iff.mp e
    cases h2
    exact ⟨x, h1, rfl, rfl⟩
  refine call_dict_pairsH (knd := tupleKind (mixKind X.prog X.w)) (ps := prs) (PairArg.list a (ps.map Value.ref).toArray (fun j => ps.getD j 0) vps) (I.ok.hd hc) ?_ ⟨⟨o, n, ho, hcl, hd, hdat⟩, ?_, fun j k v e => ?_⟩ ⟨?_, fun i key v e => ?_⟩ (fun h' kk x hx => ?_) (by rw [hvl]; exact hz) fun h' tk hd' k => ?_
  · show X.A.in1.in1.units < cLine
    show X.A.units + 1 + 1 < cLine
    omega
  · rw [hvl]; simp
  · obtain ⟨x, h1, rfl, rfl⟩ := hat j k v e
    obtain ⟨b, e1, e2, _⟩ := hpr j x h1
    refine ⟨?_, .inl ?_⟩
    · rw [List.getElem?_toArray, List.getElem?_map, e1]
      simp [List.getD, e1]
    · have : ps.getD j 0 = b := by simp [List.getD, e1]
      show s.heap.IsTuple (ps.getD j 0) _
      rw [this]; exact e2
  · rw [hvl, hl]
  · obtain ⟨x, h1, rfl, rfl⟩ := hat i key v e
    exact ⟨x.1, x.2.1, h1, rfl⟩
  · refine (tupleKind_stays (knd := mixKind X.prog X.w)).stays (fun b o vs n e _ => kk b o (Nat.ne_of_lt (Heap.lt_size e)) (fun z => nomatch z) e) (key_of I.hok (hks x hx))
  · have hm : (s.heap.objs.size == sysModules) = false := beq_eq_false_iff_ne.mpr (Nat.ne_of_gt I.big)
    have hn : H s.heap.objs.size = none := I.hok.fresh (Nat.le_refl _)
    have kt := kt_all (H := H) rel hks (acc := []) (xs := []) .nil
    obtain ⟨o', es, ep, g1, g2, g3, g4, _, g5⟩ := hd'
    have len : ∀ (l : List (List Key × V)) (acc : List (List Key × V)), (l.foldl (fun acc kv => putK acc kv.1 kv.2) acc).length ≤ acc.length + l.length := by
      intro l
      induction l with
      | nil => intro acc; simp
      | cons x l ih =>
        intro acc
        rw [List.foldl_cons, List.length_cons]
        have h1 := ih (putK acc x.1 x.2)
        have h2 := putK_len acc x.1 x.2
        omega
    have hlen := len (kvs.map fun x => (x.1, x.2.2)) []
    rw [List.length_nil, List.length_map, Paired.length rel] at hlen
    refine ⟨.ref s.heap.objs.size, _, I.laid (t' := tk) (o := .dT ((kvs.map fun x => (x.1, x.2.2)).foldl (fun acc kv => putK acc kv.1 kv.2) [])) (fun b o e => k b o (fun z => nomatch z) e) (Nat.le_refl _) ?_, rfl, q _ hn⟩
    exact ⟨by omega, hm, storedAllH [] prs, kt.keeps (fun b ys e => by rw [upd_ne (ne_of_none e hn)]; exact e), o', es, ep, g1, g2, g3, g4, g5⟩
end
end SrtK

set_option Elab.async false
set_option linter.all false
set_option maxRecDepth 100000
namespace DL
open PySem PySem.Spec PyProof.Rows L2 SrtK
section
variable {K : PySem.W.Frag} {te ta tb tc td ty tv tx : TE} {tt tu : TT} {ts : TA} {ρ : Env} {Q : D → Env → Prop} {E : EndD}
/-! ### what a slot lets read -/
def Sl.dat : Sl → Option D
  | .sh d => some d
  | .own _ d => some d
  | .tab d _ _ => some d
  | _ => none
/-- the top of the data at v, read in H, its parts in G -/
def RepT (K : PySem.W.Frag) (G H : Hp) (v : V) : D → Prop
  | .lst ds => ∃ a vs, v = .ref a ∧ H a = some (.lst vs) ∧ Reps K G vs ds
  | .dk ps => ∃ a kvs, v = .ref a ∧ Rd H a (.dK kvs) ∧ kvs.map (·.1) = ps.map (·.1) ∧ Reps K G (kvs.map (·.2)) (ps.map (·.2))
  | .dt ps => ∃ a kvs, v = .ref a ∧ Rd H a (.dT kvs) ∧ kvs.map (·.1) = ps.map (·.1) ∧ Reps K G (kvs.map (·.2)) (ps.map (·.2))
  | .ins C ps => ∃ a dx fs, v = .ref a ∧ H a = some (.ins (He.ga K C) dx fs) ∧ fs.map (·.1) = ps.map (·.1) ∧ Reps K G (fs.map (·.2)) (ps.map (·.2))
  | d => Rep K G v d
theorem repT_rep {G H : Hp} {v : V} {d : D} (e : Ex G H) (h : Rep K G v d) : RepT K G H v d := by
  cases h with
  | lst a b => exact ⟨_, _, rfl, e _ _ a, b⟩
  | dk a b c => exact ⟨_, _, rfl, e.rdx.1 _ _ trivial a, b, c⟩
  | dt a b c => exact ⟨_, _, rfl, e.rdx.1 _ _ trivial a, b, c⟩
  | ins a b c => exact ⟨_, _, _, rfl, e _ _ a, b, c⟩
  | non => exact .non
  | bl b => exact .bl b
  | int b => exact .int b
  | str b => exact .str b
  | tup a b => exact .tup a b
  | kt a b => exact .kt a b
  | scr a => exact .scr a
theorem repT_own {G H : Hp} {a : Addr} {d : D} (h : OwnR K G (H a) d) : RepT K G H (.ref a) d := by
  cases d with
  | lst _ => obtain ⟨vs, e, r⟩ := h; exact ⟨a, vs, rfl, e, r⟩
  | dk _ => obtain ⟨vs, e, k, r⟩ := h; exact ⟨a, vs, rfl, .inl e, k, r⟩
  | dt _ => obtain ⟨vs, e, k, r⟩ := h; exact ⟨a, vs, rfl, .inl e, k, r⟩
  | ins _ _ => obtain ⟨dx, vs, e, k, r⟩ := h; exact ⟨a, dx, vs, rfl, e, k, r⟩
  | _ => exact h.elim
theorem slot_rd {F G H : Hp} {σ : L2.St} {i : Nat} {d : D} (R : RE K F G H σ ρ) (h : (ρ[i]?.bind Sl.dat) = some d) : ∃ v, σ[i]? = some (some v) ∧ RepT K G H v d := by
  cases hr : ρ[i]? with
  | none => rw [hr] at h; cases h
  | some r =>
    rw [hr] at h
    obtain ⟨s, hs, q⟩ := R.sl.get hr
    cases r with
    | sh x => cases h; obtain ⟨v, rfl, hv⟩ := q; exact ⟨v, hs, repT_rep R.wd.g hv⟩
    | own a x => cases h; obtain ⟨rfl, _, _, ho⟩ := q; exact ⟨_, hs, repT_own ho⟩
    | tab x P q' => cases h; obtain ⟨⟨v, rfl, hv⟩, _⟩ := q; exact ⟨v, hs, repT_rep R.wd.g hv⟩
    | un => cases h
    | drw a => cases h
    | two a b c d => cases h
theorem rep_kDs {H : Hp} : ∀ {vs : List V} {ks : List Key}, Reps K H vs (ks.map kD) → vs = ks.map kV
  | _, [], h => h.nil_inv
  | _, k :: ks, h => by
    obtain ⟨v, ws, rfl, h1, h2⟩ := h.cons_inv
    rw [rep_kD h1, rep_kDs h2]; rfl
theorem reps_kD {H : Hp} : ∀ ks : List Key, Reps K H (ks.map kV) (ks.map kD)
  | [] => .nil
  | k :: ks => .cons (rep_of_kD k) (reps_kD ks)
theorem rep_kT {H : Hp} {v : V} {ks : List Key} (h : Rep K H v (.tup (ks.map kD))) : ∃ b, v = .ref b ∧ H b = some (.tup (ks.map kV)) := by
  obtain ⟨a, vs, rfl, h1, h2⟩ := rep_tup h
  rw [rep_kDs h2] at h1
  exact ⟨a, rfl, h1⟩
/-- an own thing may be shared from now on -/
theorem ws_share {i : Nat} {a : Addr} {d : D} {t : TS} (hi : ρ[i]? = some (.own a d)) (h : WS K t (ρ.set i (.sh d)) E) : WS K t ρ E := fun F G H σ Dn R L => by
  obtain ⟨o, _, _, hG, R', _⟩ := R.give hi
  exact h F _ H σ Dn R' (L.mono (Ex.new hG))
theorem ew_share {i : Nat} {a : Addr} {d : D} (hi : ρ[i]? = some (.own a d)) (h : EvW K te (ρ.set i (.sh d)) Q) : EvW K te ρ Q := fun F G H σ R Q' k => by
  obtain ⟨o, _, _, hG, R', _⟩ := R.give hi
  exact h F _ H σ R' Q' fun v d ρ' G' H' e => k v d ρ' G' H' ((Ex.new hG).trans e)
/-! ### dicts that are read -/
theorem ew_dgetV {i : Nat} {d0 : D} (h0 : (ρ[i]?.bind Sl.dat) = some d0) (h : EvW K ty ρ fun y ρ2 => ∃ k ps d, y = kD k ∧ (ρ2[i]?.bind Sl.dat) = some (.dk ps) ∧ dget ps k = some d ∧ Q d ρ2) : EvW K (tDGet (tVar i) ty) ρ Q := fun F G H σ R Q' k => by
  obtain ⟨v, hv, _⟩ := slot_rd R h0
  refine ⟨v, hv, h F G H σ R _ fun w y ρ2 G2 H2 e2 R2 hw q2 => ?_⟩
  obtain ⟨kk, ps, d, rfl, h2, hd, q⟩ := q2
  obtain ⟨v', hv', a, kvs, rfl, hr, r1, r2⟩ := slot_rd R2 h2
  rw [hv] at hv'; cases hv'
  rcases dk_look kk r1 r2 with ⟨_, z2⟩ | ⟨v1, d1, z1, z2, z3⟩
  · rw [hd] at z2; cases z2
  · rw [hd] at z2; cases z2
    exact ⟨a, v1, rfl, .inl ⟨kvs, kk, hr, rep_kD hw, z1.symm⟩, k _ _ ρ2 G2 H2 e2 R2 z3 q⟩
theorem ew_dgetVT {i : Nat} {d0 : D} (h0 : (ρ[i]?.bind Sl.dat) = some d0) (h : EvW K ty ρ fun y ρ2 => ∃ k ps d, y = .tup (k.map kD) ∧ (ρ2[i]?.bind Sl.dat) = some (.dt ps) ∧ dget ps k = some d ∧ Q d ρ2) : EvW K (tDGet (tVar i) ty) ρ Q := fun F G H σ R Q' k => by
  obtain ⟨v, hv, _⟩ := slot_rd R h0
  refine ⟨v, hv, h F G H σ R _ fun w y ρ2 G2 H2 e2 R2 hw q2 => ?_⟩
  obtain ⟨kk, ps, d, rfl, h2, hd, q⟩ := q2
  obtain ⟨v', hv', a, kvs, rfl, hr, r1, r2⟩ := slot_rd R2 h2
  rw [hv] at hv'; cases hv'
  obtain ⟨b, rfl, hb⟩ := rep_kT hw
  rcases dk_look kk r1 r2 with ⟨_, z2⟩ | ⟨v1, d1, z1, z2, z3⟩
  · rw [hd] at z2; cases z2
  · rw [hd] at z2; cases z2
    exact ⟨a, v1, rfl, .inr ⟨kvs, kk, b, hr, rfl, R2.wd.g _ _ hb, z1.symm⟩, k _ _ ρ2 G2 H2 e2 R2 z3 q⟩
/-- d.get(k, c) -/
theorem ew_get2 {i : Nat} {p0 : List (Key × D)} (h0 : (ρ[i]?.bind Sl.dat) = some (.dk p0)) (h : EvW K ty ρ fun y ρ2 => EvW K tx ρ2 fun z ρ3 => ∃ k ps, y = kD k ∧ (ρ3[i]?.bind Sl.dat) = some (.dk ps) ∧ Q ((dget ps k).getD z) ρ3) : EvW K (tDGet2 (tVar i) ty tx) ρ Q := fun F G H σ R Q' k => by
  obtain ⟨v, hv, a, kvs0, rfl, hr0, _⟩ := slot_rd R h0
  refine ⟨.ref a, hv, a, rfl, .inl ⟨kvs0, hr0⟩, h F G H σ R _ fun w y ρ2 G2 H2 e2 R2 hw q2 => q2 F G2 H2 σ R2 _ fun u z ρ3 G3 H3 e3 R3 hu q3 => ?_⟩
  obtain ⟨kk, ps, rfl, h2, q⟩ := q3
  obtain ⟨v', hv', a', kvs, rfl, hr, r1, r2⟩ := slot_rd R3 h2
  rw [hv] at hv'; cases hv'
  refine ⟨_, .inl ⟨kvs, kk, hr, rep_kD (hw.mono e3), rfl⟩, ?_⟩
  rcases dk_look kk r1 r2 with ⟨z1, z2⟩ | ⟨v1, d1, z1, z2, z3⟩
  · rw [z2] at q; rw [z1]; exact k _ _ ρ3 G3 H3 (e2.trans e3) R3 hu q
  · rw [z2] at q; rw [z1]; exact k _ _ ρ3 G3 H3 (e2.trans e3) R3 z3 q
theorem ew_get2T {i : Nat} {p0 : List (List Key × D)} (h0 : (ρ[i]?.bind Sl.dat) = some (.dt p0)) (h : EvW K ty ρ fun y ρ2 => EvW K tx ρ2 fun z ρ3 => ∃ k ps, y = .tup (k.map kD) ∧ (ρ3[i]?.bind Sl.dat) = some (.dt ps) ∧ Q ((dget ps k).getD z) ρ3) : EvW K (tDGet2 (tVar i) ty tx) ρ Q := fun F G H σ R Q' k => by
  obtain ⟨v, hv, a, kvs0, rfl, hr0, _⟩ := slot_rd R h0
  refine ⟨.ref a, hv, a, rfl, .inr ⟨kvs0, hr0⟩, h F G H σ R _ fun w y ρ2 G2 H2 e2 R2 hw q2 => q2 F G2 H2 σ R2 _ fun u z ρ3 G3 H3 e3 R3 hu q3 => ?_⟩
  obtain ⟨kk, ps, rfl, h2, q⟩ := q3
  obtain ⟨v', hv', a', kvs, rfl, hr, r1, r2⟩ := slot_rd R3 h2
  rw [hv] at hv'; cases hv'
  obtain ⟨b, rfl, hb⟩ := rep_kT (hw.mono e3)
  refine ⟨_, .inr ⟨kvs, kk, b, hr, rfl, R3.wd.g _ _ hb, rfl⟩, ?_⟩
  rcases dk_look kk r1 r2 with ⟨z1, z2⟩ | ⟨v1, d1, z1, z2, z3⟩
  · rw [z2] at q; rw [z1]; exact k _ _ ρ3 G3 H3 (e2.trans e3) R3 hu q
  · rw [z2] at q; rw [z1]; exact k _ _ ρ3 G3 H3 (e2.trans e3) R3 z3 q
/-- k in d -/
theorem ew_dinV {i : Nat} (h : EvW K ty ρ fun y ρ1 => ∃ k ps, y = kD k ∧ (ρ1[i]?.bind Sl.dat) = some (.dk ps) ∧ Q (.bl (dget ps k).isSome) ρ1) : EvW K (tDIn ty (tVar i)) ρ Q := fun F G H σ R Q' k =>
  h F G H σ R _ fun w y ρ1 G1 H1 e1 R1 hw q => by
    obtain ⟨kk, ps, rfl, h2, q⟩ := q
    obtain ⟨v, hv, a, kvs, rfl, hr, r1, r2⟩ := slot_rd R1 h2
    refine ⟨.ref a, hv, a, valV kvs kk, rfl, .inl ⟨kvs, kk, hr, rep_kD hw, rfl⟩, ?_⟩
    have e : (valV kvs kk).isSome = (dget ps kk).isSome := by
      rcases dk_look kk r1 r2 with ⟨z1, z2⟩ | ⟨_, _, z1, z2, _⟩ <;> rw [z1, z2] <;> rfl
    rw [e]
    exact k _ _ ρ1 G1 H1 e1 R1 (.bl _) q
theorem ew_dnotinV {i : Nat} (h : EvW K ty ρ fun y ρ1 => ∃ k ps, y = kD k ∧ (ρ1[i]?.bind Sl.dat) = some (.dk ps) ∧ Q (.bl (!(dget ps k).isSome)) ρ1) : EvW K (tDNotIn ty (tVar i)) ρ Q := fun F G H σ R Q' k =>
  h F G H σ R _ fun w y ρ1 G1 H1 e1 R1 hw q => by
    obtain ⟨kk, ps, rfl, h2, q⟩ := q
    obtain ⟨v, hv, a, kvs, rfl, hr, r1, r2⟩ := slot_rd R1 h2
    refine ⟨.ref a, hv, a, valV kvs kk, rfl, .inl ⟨kvs, kk, hr, rep_kD hw, rfl⟩, ?_⟩
    have e : (valV kvs kk).isSome = (dget ps kk).isSome := by
      rcases dk_look kk r1 r2 with ⟨z1, z2⟩ | ⟨_, _, z1, z2, _⟩ <;> rw [z1, z2] <;> rfl
    rw [e]
    exact k _ _ ρ1 G1 H1 e1 R1 (.bl _) q
/-- d[k] = v, k a tuple, d the def's own -/
theorem ws_dputT {i : Nat} {a : Addr} (h : EvW K tv ρ fun d ρ1 => (∃ p0, ρ1[i]? = some (.own a p0)) ∧ EvW K ty ρ1 fun y ρ2 => ∃ k ps, y = .tup (k.map kD) ∧ ρ2[i]? = some (.own a (.dt ps)) ∧ ps.length < 90000 ∧ E.nx (ρ2.set i (.own a (.dt (dput ps k d))))) :
    WS K (sDPut (tVar i) ty tv) ρ E := fun F G H σ Dn R L =>
  h F G H σ R _ fun v d ρ1 G1 H1 e1 R1 hv q => by
    obtain ⟨⟨p0, hi1⟩, q⟩ := q
    obtain ⟨_, hs1, rfl, _⟩ := R1.sl.get hi1
    refine ⟨.ref a, hs1, q F G1 H1 σ R1 _ fun w y ρ2 G2 H2 e2 R2 hw q2 => ?_⟩
    obtain ⟨kk, ps, rfl, hi2, hl, q2⟩ := q2
    obtain ⟨_, hs2, e, hG, hF, kvs, hd, hk, hr⟩ := R2.sl.get hi2
    obtain ⟨z1, z2⟩ := put_rel (k := kk) hk hr (hv.mono e2)
    have hlen : kvs.length = ps.length := by have := congrArg List.length hk; simpa using this
    obtain ⟨b, rfl, hb⟩ := rep_kT hw
    refine ⟨a, upd H2 a (.dT (putK kvs kk v)), rfl, .inr ⟨kvs, kk, b, hd, rfl, R2.wd.g _ _ hb, by rw [hlen]; exact bigl (by omega), rfl⟩, ?_⟩
    exact L.nx _ _ G2 _ (e1.trans e2) (R2.mut (r' := .own a (.dt (dput ps kk d))) hi2 (List.mem_singleton.mpr rfl) (List.Sublist.refl _) hs1 ⟨rfl, hG, hF, _, upd_same, z1, z2⟩) q2
/-! ### own lists that are read -/
theorem ew_lenV {i : Nat} {ds : List D} (h : (ρ[i]?.bind Sl.dat) = some (.lst ds)) (q : Q (.int ds.length) ρ) : EvW K (tCB (rLenU K) (tCons (tVar i) tNil)) ρ Q := fun F G H σ R Q' k => by
  obtain ⟨v, hv, a, vs, rfl, h1, h2⟩ := slot_rd R h
  refine ⟨.ref a, hv, .inl (.inl ⟨a, vs, rfl, .inl (.inl (.inl h1)), ?_⟩)⟩
  rw [h2.length]
  exact k _ _ ρ G H (Ex.refl G) R (.int _) q
theorem ew_ixV {i : Nat} {d0 : D} (h0 : (ρ[i]?.bind Sl.dat) = some d0) (h : EvW K tb ρ fun y ρ2 => ∃ j ds d, y = .int j ∧ (ρ2[i]?.bind Sl.dat) = some (.lst ds) ∧ atI ds j = some d ∧ Q d ρ2) : EvW K (tOp (rIx K) (tVar i) tb) ρ Q := fun F G H σ R Q' k => by
  obtain ⟨v, hv, _⟩ := slot_rd R h0
  refine ⟨v, hv, h F G H σ R _ fun w y ρ2 G2 H2 e2 R2 hw q2 => ?_⟩
  obtain ⟨j, ds, d, rfl, h2, hd, q⟩ := q2
  obtain ⟨v', hv', a, vs, rfl, h3, h4⟩ := slot_rd R2 h2
  rw [hv] at hv'; cases hv'
  obtain ⟨x, h5, h6⟩ := atI_rep h4 hd
  exact .inl ⟨a, vs, j, x, rfl, rep_int hw, .inl (.inl h3), h5, k _ _ ρ2 G2 H2 e2 R2 h6 q⟩
/-- xs.extend(ys) -/
theorem ew_extend {i : Nat} {a : Addr} {d0 : List D} (hi : ρ[i]? = some (.own a (.lst d0))) (h : EvW K te ρ fun d ρ1 => ∃ ds es, ρ1[i]? = some (.own a (.lst ds)) ∧ d = .lst es ∧ ds.length + es.length < 90000 ∧ Q .non (ρ1.set i (.own a (.lst (ds ++ es))))) :
    EvW K (tBM K "list" rExtend (tVar i) (tCons te tNil)) ρ Q := fun F G H σ R Q' k => by
  obtain ⟨s, hs, rfl, _, _, vs0, hd0, _⟩ := R.sl.get hi
  refine ⟨.ref a, hs, .inl ⟨rfl, vs0, .inl (.inl hd0)⟩, h F G H σ R _ fun v d ρ1 G1 H1 e1 R1 hv q => ?_⟩
  obtain ⟨ds, es, hi1, rfl, hl, q⟩ := q
  obtain ⟨_, hs1, e, hG, hF, vs, hd, hr⟩ := R1.sl.get hi1
  obtain ⟨b, ws, rfl, hb, hr2⟩ := rep_lst hv
  refine ⟨a, b, vs, ws, rfl, rfl, hd, R1.wd.g _ _ hb, by rw [hr.length, hr2.length]; exact big (by omega), ?_⟩
  exact k .non .non _ G1 _ e1 (R1.mut (r' := .own a (.lst (ds ++ es))) hi1 (List.mem_singleton.mpr rfl) (List.Sublist.refl _) hs ⟨rfl, hG, hF, _, upd_same, hr.append hr2⟩) .non q
/-- xs * n -/
theorem reps_flat {H : Hp} {vs : List V} {ds : List D} (h : Reps K H vs ds) : ∀ n : Nat, Reps K H (List.replicate n vs).flatten (List.replicate n ds).flatten
  | 0 => .nil
  | n + 1 => by
    rw [List.replicate_succ, List.replicate_succ, List.flatten_cons, List.flatten_cons]
    exact h.append (reps_flat h n)
theorem en_rep (h : EvW K ta ρ fun x ρ1 => EvW K tb ρ1 fun y ρ2 => ∃ (xs : List D) (n : Int), x = .lst xs ∧ y = .int n ∧ 0 ≤ n ∧ n ≤ 1000 ∧ xs.length * n.toNat ≤ 90000 ∧ Q (.lst (List.replicate n.toNat xs).flatten) ρ2) : EvN K (tOp rRep ta tb) ρ Q := fun F G H σ R Q' k =>
  h F G H σ R _ fun v x ρ1 G1 H1 e1 R1 hv q1 => q1 F G1 H1 σ R1 _ fun w y ρ2 G2 H2 e2 R2 hw q2 => by
    obtain ⟨xs, n, rfl, rfl, n0, n1, hl, q⟩ := q2
    obtain ⟨a, vs, rfl, h1, h2⟩ := rep_lst (hv.mono e2)
    refine ⟨a, n, vs, rfl, rep_int hw, R2.wd.g _ _ h1, by omega, by omega, by rw [h2.length]; exact big (by omega), fun p hp => ?_⟩
    obtain ⟨z1, z2, z3, z4, z5⟩ := en_of R2 hp (reps_flat h2 n.toNat)
    exact k p _ ρ2 G2 _ (e1.trans e2) z1 z2 z3 z4 z5 q
/-- x in WORDS -/
theorem op2_inK {neg : Bool} {x : Str} {ys : List Str} (q : Q (.bl (if neg then !decide (x ∈ ys) else decide (x ∈ ys))) ρ) : Op2 K (rIn K neg) (.str x) (.kt (strsD ys)) ρ Q := fun F G H σ R v w hv hw Q' k => by
  rw [rep_str hv]
  have fin : Q' (.bl (if neg then !inV (.str x) (ys.map V.str) else inV (.str x) (ys.map V.str))) H := by
    rw [inV_strs]; exact k _ _ ρ G H (Ex.refl G) R (.bl _) q
  obtain ⟨a, vs, rfl, h1, h2⟩ := rep_kt hw
  rw [reps_strs h2] at h1
  exact ⟨a, _, rfl, .inr (R.wd.g.sqK h1), rfl, flat_strs ys, fin⟩
/-! ### tuples that stand anywhere -/
theorem RE.tupIn {F G H : Hp} {σ : L2.St} {q : Addr} {vs : List V} (R : RE K F G H σ ρ) (hq : H q = some (.tup vs)) : ∃ G', Ex G G' ∧ RE K F G' H σ ρ ∧ G' q = some (.tup vs) := by
  cases hG : G q with
  | some o =>
    have := R.wd.g _ _ hG
    rw [hq] at this; cases this
    exact ⟨G, Ex.refl G, R, hG⟩
  | none =>
    have hF : F q = none := by
      cases z : F q with
      | none => rfl
      | some o =>
        have := R.wd.f _ _ z
        rw [hq] at this; cases this
        exact absurd z (R.wd.ft q vs)
    have hO : q ∉ ownA ρ := fun m => by
      obtain ⟨_, _, u, hu, nt⟩ := R.sl.own m
      rw [hq] at hu; cases hu
      exact nt vs rfl
    exact ⟨upd G q (.tup vs), Ex.new hG, R.share hq hG hF hO, upd_same⟩
theorem tupsIn {F H : Hp} {σ : L2.St} : ∀ {bs : List Addr} {ks : List (List Key)} {G : Hp}, RE K F G H σ ρ → KeysAt H bs ks → ∃ G', Ex G G' ∧ RE K F G' H σ ρ ∧ Reps K G' (bs.map V.ref) (ks.map fun k => D.tup (k.map kD))
  | _, _, G, R, .nil => ⟨G, Ex.refl G, R, .nil⟩
  | _, _, G, R, .cons (a := b) (b := k) h r => by
    obtain ⟨G1, e1, R1, h1⟩ := R.tupIn h
    obtain ⟨G2, e2, R2, h2⟩ := tupsIn R1 r
    exact ⟨G2, e1.trans e2, R2, .cons (.tup (e2 _ _ h1) (reps_kD k)) h2⟩
theorem KeysAt.up {H H' : Hp} (e : Ex H H') : ∀ {bs : List Addr} {ks : List (List Key)}, KeysAt H bs ks → KeysAt H' bs ks
  | _, _, .nil => .nil
  | _, _, .cons h r => .cons (e _ _ h) (KeysAt.up e r)
/-- sorted(d), d with tuples for keys -/
theorem opn_sortKD {ps : List (List Key × D)} {b : Bool} {sr : List Bool} (hs : ∀ k ∈ ps.map (·.1), shp k = b :: sr) (q : Q (.lst ((srtK (ps.map (·.1))).map fun k => D.tup (k.map kD))) ρ) : OpN K rSortKD [.dt ps] ρ Q := fun F G H σ R vs hv Q' k => by
  obtain ⟨v, rfl, h⟩ := hv.one
  obtain ⟨a, kvs, rfl, h1, h2, h3⟩ := rep_dt h
  refine ⟨a, kvs, b, sr, rfl, R.wd.g.rdx.1 _ _ trivial h1, by rw [h2]; exact hs, fun bs p hk hp => ?_⟩
  rw [h2] at hk
  obtain ⟨G1, e1, R1, r1⟩ := tupsIn R hk
  obtain ⟨z1, z2, z3, z4, z5⟩ := en_of R1 hp r1
  exact k p _ ρ G1 _ e1 z1 z2 z3 z4 z5 q
end
end DL

set_option Elab.async false
set_option linter.all false
set_option maxRecDepth 100000
namespace DL
open PySem PySem.Spec PyProof.Rows L2 SrtK
section
variable {K : PySem.W.Frag} {te ta tb tc td ty tv tx tk : TE} {tt tu : TT} {ts : TA} {ρ : Env} {Q : D → Env → Prop} {E : EndD}
/-! ### dict(pairs) -/
/-- pairs put one after another -/
def dputs {κ : Type} [DecidableEq κ] (acc ps : List (κ × D)) : List (κ × D) := ps.foldl (fun a p => dput a p.1 p.2) acc
theorem puts_rel {κ : Type} [DecidableEq κ] {H : Hp} : ∀ {kvs : List (κ × V)} {ps : List (κ × D)} {acc : List (κ × V)} {bcc : List (κ × D)}, kvs.map (·.1) = ps.map (·.1) → Reps K H (kvs.map (·.2)) (ps.map (·.2)) → acc.map (·.1) = bcc.map (·.1) → Reps K H (acc.map (·.2)) (bcc.map (·.2)) →
    (kvs.foldl (fun a kv => putK a kv.1 kv.2) acc).map (·.1) = (dputs bcc ps).map (·.1) ∧ Reps K H ((kvs.foldl (fun a kv => putK a kv.1 kv.2) acc).map (·.2)) ((dputs bcc ps).map (·.2))
  | [], [], acc, bcc, _, _, e, r => ⟨e, r⟩
  | [], _ :: _, _, _, e, _, _, _ => by simp at e
  | _ :: _, [], _, _, e, _, _, _ => by simp at e
  | kv :: kvs, p :: ps, acc, bcc, e, r, e2, r2 => by
    simp only [List.map_cons, List.cons.injEq] at e
    cases r with
    | cons h1 h2 =>
      obtain ⟨z1, z2⟩ := put_rel (k := kv.1) e2 r2 h1
      have := puts_rel (kvs := kvs) (ps := ps) e.2 h2 z1 z2
      rw [List.foldl_cons]
      unfold dputs
      rw [List.foldl_cons, ← e.1]
      exact this
theorem opn_dictT {ps : List (List Key × D)} (hl : ps.length ≤ 90000) (q : Q (.dt (dputs [] ps)) ρ) : OpN K (rDictT K) [.lst (ps.map fun p => .tup [.tup (p.1.map kD), p.2])] ρ Q := fun F G H σ R vs hv Q' k => by
  obtain ⟨v, rfl, h⟩ := hv.one
  obtain ⟨a, ws, rfl, h1, h2⟩ := rep_lst h
  have key : ∀ {ws : List V} {ps : List (List Key × D)}, Reps K G ws (ps.map fun p => .tup [.tup (p.1.map kD), p.2]) → ∃ (bs : List Addr) (kvs : List (List Key × Addr × V)), ws = bs.map V.ref ∧ Paired (fun p kv => H p = some (.tup [.ref kv.2.1, kv.2.2]) ∧ H kv.2.1 = some (.tup (kv.1.map kV))) bs kvs ∧ (kvs.map fun x => (x.1, x.2.2)).map (·.1) = ps.map (·.1) ∧ Reps K G ((kvs.map fun x => (x.1, x.2.2)).map (·.2)) (ps.map (·.2)) := by
    intro ws
    induction ws with
    | nil =>
      intro ps h
      cases ps with
      | nil => exact ⟨[], [], rfl, .nil, rfl, .nil⟩
      | cons _ _ => cases h
    | cons w ws ih =>
      intro ps h
      cases ps with
      | nil => cases h
      | cons p ps =>
        cases h with
        | cons h1 h2 =>
          obtain ⟨bs, kvs, e, pr, e1, r1⟩ := ih h2
          obtain ⟨b, us, rfl, g1, g2⟩ := rep_tup h1
          obtain ⟨u1, u2, rfl, g3, g4⟩ := g2.two
          obtain ⟨c, rfl, g5⟩ := rep_kT g3
          exact ⟨b :: bs, (p.1, c, u2) :: kvs, by rw [e]; rfl, .cons ⟨R.wd.g _ _ g1, R.wd.g _ _ g5⟩ pr, by simp only [List.map_cons]; rw [e1], .cons g4 r1⟩
  obtain ⟨bs, kvs, rfl, pr, e1, r1⟩ := key h2
  refine ⟨a, bs, kvs, rfl, .inl (.inl (R.wd.g _ _ h1)), pr, fun p hp => ?_⟩
  obtain ⟨z1, z2⟩ := puts_rel (acc := []) (bcc := []) e1 r1 rfl .nil
  exact k p (.dt (dputs [] ps)) ρ G _ (Ex.refl G) (R.alone hp) (R.wd.g.none hp) (R.wd.f.none hp) (ownA_fresh R hp) ⟨_, upd_same, z1, z2⟩ q
/-- dict(pairs) with ints and texts for keys -/
def rDictP (K : PySem.W.Frag) : List V → Hp → VK → Prop := fun xs H Q => ∃ (a : Addr) (ps : List Addr) (kvs : List (Key × V)), xs = [.ref a] ∧ SqL K H a (ps.map V.ref) ∧ Paired (fun p kv => SqT K H p [kV kv.1, kv.2]) ps kvs ∧ ∀ p, H p = none → Q (.ref p) (upd H p (.dK (mergeK [] kvs)))
theorem kdictP {X : Cx} (hc : X.calm = true) (h : X.K = K) : CallR X (.type "dict") (rDictP K) := h ▸ call_dictP hc
theorem kdictT {X : Cx} (hc : X.calm = true) (hu : X.A.units + 64 < cLine) (h : X.K = K) : CallR X (.type "dict") (rDictT K) := h ▸ call_dictT hc hu
theorem opn_dictP {ps : List (Key × D)} (q : Q (.dk (dputs [] ps)) ρ) : OpN K (rDictP K) [.lst (ps.map fun p => .tup [kD p.1, p.2])] ρ Q := fun F G H σ R vs hv Q' k => by
  obtain ⟨v, rfl, h⟩ := hv.one
  obtain ⟨a, ws, rfl, h1, h2⟩ := rep_lst h
  have key : ∀ {ws : List V} {ps : List (Key × D)}, Reps K G ws (ps.map fun p => .tup [kD p.1, p.2]) → ∃ (bs : List Addr) (kvs : List (Key × V)), ws = bs.map V.ref ∧ Paired (fun p kv => SqT K H p [kV kv.1, kv.2]) bs kvs ∧ kvs.map (·.1) = ps.map (·.1) ∧ Reps K G (kvs.map (·.2)) (ps.map (·.2)) := by
    intro ws
    induction ws with
    | nil =>
      intro ps h
      cases ps with
      | nil => exact ⟨[], [], rfl, .nil, rfl, .nil⟩
      | cons _ _ => cases h
    | cons w ws ih =>
      intro ps h
      cases ps with
      | nil => cases h
      | cons p ps =>
        cases h with
        | cons h1 h2 =>
          obtain ⟨bs, kvs, e, pr, e1, r1⟩ := ih h2
          obtain ⟨b, us, rfl, g1, g2⟩ := rep_tup h1
          obtain ⟨u1, u2, rfl, g3, g4⟩ := g2.two
          rw [rep_kD g3] at g1
          exact ⟨b :: bs, (p.1, u2) :: kvs, by rw [e]; rfl, .cons (R.wd.g.sqT g1) pr, by simp only [List.map_cons]; rw [e1], .cons g4 r1⟩
  obtain ⟨bs, kvs, rfl, pr, e1, r1⟩ := key h2
  refine ⟨a, bs, kvs, rfl, .inl (.inl (R.wd.g _ _ h1)), pr, fun p hp => ?_⟩
  obtain ⟨z1, z2⟩ := puts_rel (acc := []) (bcc := []) e1 r1 rfl .nil
  exact k p (.dk (dputs [] ps)) ρ G _ (Ex.refl G) (R.alone hp) (R.wd.g.none hp) (R.wd.f.none hp) (ownA_fresh R hp) ⟨_, upd_same, z1, z2⟩ q
/-! ### a dict that is walked is locked -/
def FzD (K : PySem.W.Frag) (G : Hp) (a : Addr) (od : Obj) : D → Prop
  | .dk ps => ∃ kvs, G a = some (.frz od (.dK kvs)) ∧ kvs.map (·.1) = ps.map (·.1) ∧ Reps K G (kvs.map (·.2)) (ps.map (·.2))
  | .dt ps => ∃ kvs, G a = some (.frz od (.dT kvs)) ∧ kvs.map (·.1) = ps.map (·.1) ∧ Reps K G (kvs.map (·.2)) (ps.map (·.2))
  | _ => False
def D.isDict : D → Bool
  | .dk _ => true
  | .dt _ => true
  | _ => false
def DictU (u : HO) : Prop := (∃ kvs, u = .dK kvs) ∨ ∃ kvs, u = .dT kvs
theorem DictU.nt {u : HO} (h : DictU u) : ∀ xs, u ≠ .tup xs := fun xs z => by rcases h with ⟨_, rfl⟩ | ⟨_, rfl⟩ <;> cases z
theorem DictU.nc {u : HO} (h : DictU u) : ∀ c q, u ≠ LamX.CodeO c q := fun c q z => by unfold LamX.CodeO at z; rcases h with ⟨_, rfl⟩ | ⟨_, rfl⟩ <;> cases z
theorem DictU.mu {u : HO} (h : DictU u) : Mut (some u) := by rcases h with ⟨_, rfl⟩ | ⟨_, rfl⟩ <;> trivial
theorem rdx_lockU {G : Hp} {d : Addr} {od : Obj} {u : HO} (hu : DictU u) (hd : G d = some u) : RdX G (upd G d (.frz od u)) := by
  refine ⟨fun a w hw h => ?_, fun a C dx fs h => ?_, fun a xs h => ?_, fun a xs h => ?_⟩
  · by_cases e : a = d
    · subst e
      rcases h with h | ⟨o, h⟩
      · rw [hd] at h; cases h; exact .inr ⟨od, upd_same⟩
      · rw [hd] at h; rcases hu with ⟨_, rfl⟩ | ⟨_, rfl⟩ <;> cases h
    · unfold Rd; rw [upd_ne e]; exact h
  all_goals
    have ne : a ≠ d := fun z => by rw [z, hd] at h; rcases hu with ⟨_, rfl⟩ | ⟨_, rfl⟩ <;> cases h
    rw [upd_ne ne]; exact h
theorem rdx_unlockU {G : Hp} {d : Addr} {od : Obj} {u : HO} (hu : DictU u) (hd : G d = some (.frz od u)) : RdX G (upd G d u) := by
  refine ⟨fun a w hw h => ?_, fun a C dx fs h => ?_, fun a xs h => ?_, fun a xs h => ?_⟩
  · by_cases e : a = d
    · subst e
      rcases h with h | ⟨o, h⟩
      · rw [hd] at h; cases h; exact hw.elim
      · rw [hd] at h; cases h; exact .inl upd_same
    · unfold Rd; rw [upd_ne e]; exact h
  all_goals
    have ne : a ≠ d := fun z => by rw [z, hd] at h; cases h
    rw [upd_ne ne]; exact h
/-- a shared dict: what stands there, locked or not -/
theorem dict_at {G : Hp} {v : V} {d0 : D} (h : Rep K G v d0) (hd : d0.isDict = true) : ∃ a u, v = .ref a ∧ DictU u ∧ ((G a = some u ∧ ∀ od G', G' a = some (.frz od u) → RdX G G' → FzD K G' a od d0) ∨ ∃ od, FzD K G a od d0) := by
  cases h with
  | @dk _ kvs _ h1 h2 h3 =>
    refine ⟨_, .dK kvs, rfl, .inl ⟨_, rfl⟩, ?_⟩
    rcases h1 with h1 | ⟨o, h1⟩
    · exact .inl ⟨h1, fun od G' e x => ⟨_, e, h2, h3.rdx x⟩⟩
    · exact .inr ⟨o, _, h1, h2, h3⟩
  | @dt _ kvs _ h1 h2 h3 =>
    refine ⟨_, .dT kvs, rfl, .inr ⟨_, rfl⟩, ?_⟩
    rcases h1 with h1 | ⟨o, h1⟩
    · exact .inl ⟨h1, fun od G' e x => ⟨_, e, h2, h3.rdx x⟩⟩
    · exact .inr ⟨o, _, h1, h2, h3⟩
  | non => cases hd
  | bl _ => cases hd
  | int _ => cases hd
  | str _ => cases hd
  | lst _ _ => cases hd
  | tup _ _ => cases hd
  | kt _ _ => cases hd
  | ins _ _ _ => cases hd
  | scr _ => cases hd
theorem ex_unlock {G G' : Hp} {a : Addr} {u : HO} {od : Obj} (hG : G a = some u) (e : Ex (upd G a (.frz od u)) G') : Ex G (upd G' a u) := fun b w z => by
  by_cases eb : b = a
  · subst eb; rw [hG] at z; cases z; exact upd_same
  · rw [upd_ne eb]; exact e b w (by rw [upd_ne eb]; exact z)
theorem en_lock {i : Nat} {d0 : D} (hi : ρ[i]? = some (.sh d0)) (hd : d0.isDict = true) (h : ∀ F G H σ a od, RE K F G H σ ρ → σ[i]? = some (some (.ref a)) → FzD K G a od d0 → ∀ Q' : VK,
    (∀ p d ρ' G' H', Ex G G' → RE K F G' H' σ ρ' → G' p = none → F p = none → p ∉ ownA ρ' → OwnR K G' (H' p) d → Q d ρ' → Q' (.ref p) H') → te σ H Q') : EvN K (fun σ H Q => tLockE te σ H Q ∨ te σ H Q) ρ Q := fun F G H σ R Q' k => by
  obtain ⟨s, hs, v, rfl, hv⟩ := R.sl.get hi
  obtain ⟨a, u, rfl, hu, hcase⟩ := dict_at hv hd
  rcases hcase with ⟨hG, fz⟩ | ⟨od, fz⟩
  · refine .inl ⟨a, u, R.wd.g _ _ hG, hu.mu, fun od => ?_⟩
    have x := rdx_lockU (od := od) hu hG
    have R1 := R.relock (u' := .frz od u) hG x hu.nt hu.nc
    refine h F _ _ σ a od R1 hs (fz od _ upd_same x) _ fun p d ρ' G' H' e R' hp hF hO o q => ?_
    have hG' := e _ _ (upd_same (H := G) (a := a) (o := .frz od u))
    have x2 := rdx_unlockU hu hG'
    have ne : p ≠ a := fun z => by rw [z, hG'] at hp; cases hp
    refine ⟨R'.wd.g _ _ hG', k p d ρ' (upd G' a u) _ (ex_unlock hG e) (R'.relock hG' x2 (fun xs z => nomatch z) (fun c q z => by unfold LamX.CodeO at z; cases z)) (by rw [upd_ne ne]; exact hp) hF hO (by rw [upd_ne ne]; exact o.rdx x2) q⟩
  · exact .inr (h F G H σ a od R hs fz Q' k)
/-- what a walk of the dict in slot i yields -/
def WalkD (K : PySem.W.Frag) (wi : TI) (i : Nat) (d0 : D) (ds : List D) : Prop := ∀ F G H σ ρ a od, RE K F G H σ ρ → σ[i]? = some (some (.ref a)) → FzD K G a od d0 → ∀ R' : It → Hp → Prop, (∀ J, Yields K G J ds → R' J H) → wi σ H R'
theorem wk_keys {i : Nat} {ps : List (Key × D)} : WalkD K (iKeys (tVar i)) i (.dk ps) (ps.map fun p => kD p.1) := fun F G H σ ρ a od R hs fz R' k => by
  obtain ⟨kvs, h1, h2, h3⟩ := fz
  exact ⟨.ref a, hs, a, od, rfl, .inl ⟨kvs, R.wd.g _ _ h1, k _ (yl_keys h1 h2)⟩⟩
theorem wk_keysT {i : Nat} {ps : List (List Key × D)} : WalkD K (iKeys (tVar i)) i (.dt ps) (ps.map fun p => .tup (p.1.map kD)) := fun F G H σ ρ a od R hs fz R' k => by
  obtain ⟨kvs, h1, h2, h3⟩ := fz
  have hlen : kvs.length = ps.length := by have := congrArg List.length h2; simpa using this
  refine ⟨.ref a, hs, a, od, rfl, .inr ⟨kvs, R.wd.g _ _ h1, k _ ⟨?_, ?_, ?_⟩⟩⟩
  · intro F G2 H2 σ ρ i e R hi
    exact ⟨R.wd.g _ _ (e _ _ h1), by rw [List.length_map] at hi; omega⟩
  · intro F G2 H2 σ ρ e R
    exact ⟨R.wd.g _ _ (e _ _ h1), by rw [List.length_map]; omega⟩
  · intro F G2 H2 σ ρ i x H3 e R hi y
    obtain ⟨rfl, kk, v, q, hkv, rfl, hq⟩ := y
    obtain ⟨G3, e3, R3, h3⟩ := R.tupIn hq
    have z : (kvs.map (·.1))[i]? = some kk := by rw [List.getElem?_map, hkv]; rfl
    rw [h2, List.getElem?_map] at z
    obtain ⟨p, hp, rfl⟩ := Option.map_eq_some_iff.mp z
    exact ⟨G3, .tup (p.1.map kD), e3, R3, by rw [List.getElem?_map, hp]; rfl, .tup h3 (reps_kD _)⟩
theorem wk_vals {i : Nat} {ps : List (Key × D)} : WalkD K (iVals (tVar i)) i (.dk ps) (ps.map (·.2)) := fun F G H σ ρ a od R hs fz R' k => by
  obtain ⟨kvs, h1, h2, h3⟩ := fz
  have hlen : kvs.length = ps.length := by have := congrArg List.length h2; simpa using this
  refine ⟨.ref a, hs, a, od, kvs, rfl, R.wd.g _ _ h1, k _ ⟨?_, ?_, ?_⟩⟩
  · intro F G2 H2 σ ρ i e R hi
    exact ⟨R.wd.g _ _ (e _ _ h1), by rw [List.length_map] at hi; omega⟩
  · intro F G2 H2 σ ρ e R
    exact ⟨R.wd.g _ _ (e _ _ h1), by rw [List.length_map]; omega⟩
  · intro F G2 H2 σ ρ i x H3 e R hi y
    obtain ⟨rfl, kk, hkv⟩ := y
    obtain ⟨d, hd, hr⟩ := h3.getV (show (kvs.map (·.2))[i]? = some x by rw [List.getElem?_map, hkv]; rfl)
    exact ⟨G2, d, Ex.refl _, R, hd, hr.mono e⟩
theorem wk_items {i : Nat} {ps : List (Key × D)} : WalkD K (iItems (tVar i)) i (.dk ps) (ps.map fun p => .tup [kD p.1, p.2]) := fun F G H σ ρ a od R hs fz R' k => by
  obtain ⟨kvs, h1, h2, h3⟩ := fz
  have hlen : kvs.length = ps.length := by have := congrArg List.length h2; simpa using this
  refine ⟨.ref a, hs, a, od, kvs, rfl, R.wd.g _ _ h1, k _ ⟨?_, ?_, ?_⟩⟩
  · intro F G2 H2 σ ρ i e R hi
    exact ⟨R.wd.g _ _ (e _ _ h1), by rw [List.length_map] at hi; omega⟩
  · intro F G2 H2 σ ρ e R
    exact ⟨R.wd.g _ _ (e _ _ h1), by rw [List.length_map]; omega⟩
  · intro F G2 H2 σ ρ i x H3 e R hi y
    obtain ⟨T, kk, v, hkv, rfl, hT, rfl⟩ := y
    obtain ⟨d, hd, hr⟩ := h3.getV (show (kvs.map (·.2))[i]? = some v by rw [List.getElem?_map, hkv]; rfl)
    have z : (kvs.map (·.1))[i]? = some kk := by rw [List.getElem?_map, hkv]; rfl
    rw [h2, List.getElem?_map] at z
    rw [List.getElem?_map] at hd
    obtain ⟨p, hp, rfl⟩ := Option.map_eq_some_iff.mp z
    rw [hp] at hd
    cases hd
    have en := Ex.new (o := .tup [kV p.1, v]) (R.wd.g.none hT)
    exact ⟨_, .tup [kD p.1, p.2], en, R.new hT, by rw [List.getElem?_map, hp]; rfl, .tup upd_same (.cons (rep_of_kD _) (.cons ((hr.mono e).mono en) .nil))⟩
end
end DL

set_option Elab.async false
set_option linter.all false
set_option maxRecDepth 100000
namespace DL
open PySem PySem.Spec PyProof.Rows L2 SrtK
section
variable {K : PySem.W.Frag} {te ta tb tc td ty tv tx tk : TE} {tt tu : TT} {ts : TA} {ρ : Env} {Q : D → Env → Prop} {E : EndD}
/-- a comprehension over a walk that is known -/
theorem lc_core {J : It} {ds : List D} {g : TG} {vs : List Nat} {F G1 H1 : Hp} {σ : L2.St} {ρ1 : Env} (R1 : RE K F G1 H1 σ ρ1) (Y : Yields K G1 J ds) (hv0 : ownFree ρ1 vs = true) (hlen : ds.length ≤ 90000) (P : Nat → List D → Prop) (p0 : P 0 [])
      (turn : ∀ i d acc, ds[i]? = some d → P i acc → GV K g vs d (wipeE ρ1 vs) fun ρ2 => EvT K tt ρ2 fun b ρ3 => ρ3 = ρ2 ∧ if b = true then EvW K te ρ2 fun y ρ4 => ρ4 = ρ2 ∧ P (i + 1) (acc ++ [y]) else P (i + 1) acc)
      (fin : ∀ acc, P ds.length acc → Q (.lst acc) ρ1) (Q' : VK) (k : ∀ p d ρ' G' H', Ex G1 G' → RE K F G' H' σ ρ' → G' p = none → F p = none → p ∉ ownA ρ' → OwnR K G' (H' p) d → Q d ρ' → Q' (.ref p) H') : tLc (fun _ H R => R J H) g tt te vs σ H1 Q' := fun Dd hD => by
    have hv := ownFree_at hv0
    have hF0 : F Dd = none := R1.wd.f.none hD
    have hO : Dd ∉ ownA ρ1 := ownA_fresh R1 hD
    refine ⟨fun i m H' => m + i = ds.length ∧ ∃ acc accV G', Ex G1 G' ∧ RE K F G' H' σ ρ1 ∧ G' Dd = none ∧ H' Dd = some (.lst accV) ∧ Reps K G' accV acc ∧ acc.length ≤ i ∧ P i acc,
      ⟨ds.length, rfl, [], [], G1, Ex.refl _, R1.alone hD, R1.wd.g.none hD, upd_same, .nil, Nat.le_refl _, p0⟩, ?_⟩
    rintro i m H' ⟨hm, acc, accV, G', e', R', hG, hH, ra, hl, p⟩
    have Rf := R'.frm hH hG hO (fun _ z => nomatch z)
    by_cases hi : i < ds.length
    · refine .inr ⟨Y.go _ G' H' σ ρ1 i e' Rf hi, fun H2 => ∃ acc accV G2, Ex G1 G2 ∧ RE K F G2 H2 σ ρ1 ∧ G2 Dd = none ∧ H2 Dd = some (.lst accV) ∧ Reps K G2 accV acc ∧ acc.length ≤ i + 1 ∧ P (i + 1) acc, fun H2 z => ⟨m - 1, by omega, by omega, z⟩, fun x H2 y => ?_⟩
      obtain ⟨G2, d, e2, R2, hd, hx⟩ := Y.yld _ G' H' σ ρ1 i x H2 e' Rf hi y
      refine turn i d acc hd p _ G2 H2 _ x (R2.wipe vs) hx _ fun σ2 ρ2 l2 s2 R3 w3 => ?_
      refine ⟨?_, w3 _ G2 H2 σ2 R3 _ fun b ρ3 G4 H4 e4 R4 w4 => ?_⟩
      · have e0 : L2.wipe (L2.wipe σ vs) vs = L2.wipe σ vs := wipe_eq (L2.wipe_length σ vs) fun i hi => wipe_at hi
        rw [wipe_eq l2 fun i hi => (s2 i hi).1, e0]
      obtain ⟨rfl, w4⟩ := w4
      have back : ∀ {G5 H5 : Hp}, Ex G2 G5 → RE K (upd F Dd (.lst accV)) G5 H5 σ2 ρ3 → RE K F G5 H5 σ ρ1 ∧ H5 Dd = some (.lst accV) ∧ G5 Dd = none := fun {G5 H5} e5 R5 => by
        obtain ⟨R6, h6, g6⟩ := R5.unfrm hF0
        refine ⟨⟨R6.wd, Slots.join (e2.trans e5) R'.sl R6.sl (fun j r hr ho => ?_), R'.nd⟩, h6, g6⟩
        have hj := hv j r hr ho
        rw [(s2 j hj).1, (s2 j hj).2, wipe_at hj, wipeE_at hj]
        exact ⟨hr, rfl⟩
      cases b with
      | true =>
        refine w4 _ G4 H4 σ2 R4 _ fun v yv ρ5 G5 H5 e5 R5 hvy w5 => ?_
        obtain ⟨rfl, w5⟩ := w5
        obtain ⟨R6, h6, g6⟩ := back (e4.trans e5) R5
        refine ⟨accV, h6, by rw [ra.length]; exact bigl (by omega), acc ++ [yv], accV ++ [v], G5, ((e'.trans e2).trans e4).trans e5, R6.aloneU g6 hF0 hO, g6, upd_same, (ra.mono ((e2.trans e4).trans e5)).append (.cons hvy .nil), by simp; omega, w5⟩
      | false =>
        obtain ⟨R6, h6, g6⟩ := back e4 R4
        exact ⟨acc, accV, G4, (e'.trans e2).trans e4, R6, g6, h6, ra.mono (e2.trans e4), by omega, w4⟩
    · have ei : i = ds.length := by omega
      subst ei
      exact .inl ⟨Y.stop _ G' H' σ ρ1 e' R', k Dd (.lst acc) ρ1 G' H' e' R' hG hF0 hO ⟨accV, hH, ra⟩ (fin acc p)⟩
/-- a comprehension over a shared dict -/
theorem en_lcD {wi : TI} {g : TG} {vs : List Nat} {i0 : Nat} {d0 : D} {ds : List D} (hi : ρ[i0]? = some (.sh d0)) (hd : d0.isDict = true) (W : WalkD K wi i0 d0 ds) (hv0 : ownFree ρ vs = true) (hlen : ds.length ≤ 90000) (P : Nat → List D → Prop) (p0 : P 0 [])
      (turn : ∀ i d acc, ds[i]? = some d → P i acc → GV K g vs d (wipeE ρ vs) fun ρ2 => EvT K tt ρ2 fun b ρ3 => ρ3 = ρ2 ∧ if b = true then EvW K te ρ2 fun y ρ4 => ρ4 = ρ2 ∧ P (i + 1) (acc ++ [y]) else P (i + 1) acc)
      (fin : ∀ acc, P ds.length acc → Q (.lst acc) ρ) : EvN K (fun σ H Q => tLockE (tLc wi g tt te vs) σ H Q ∨ tLc wi g tt te vs σ H Q) ρ Q :=
  en_lock hi hd fun F G H σ a od R hs fz Q' k => W F G H σ ρ a od R hs fz _ fun J Y => lc_core R Y hv0 hlen P p0 turn fin Q' k
/-- all turns alike: a map -/
theorem en_lcDM {wi : TI} {g : TG} {vs : List Nat} {i0 : Nat} {d0 : D} {ds : List D} {f : D → D} (hi : ρ[i0]? = some (.sh d0)) (hd : d0.isDict = true) (W : WalkD K wi i0 d0 ds) (hv0 : ownFree ρ vs = true) (hlen : ds.length ≤ 90000)
      (turn : ∀ (i : Nat) d, ds[i]? = some d → GV K g vs d (wipeE ρ vs) fun ρ2 => EvW K te ρ2 fun y ρ4 => ρ4 = ρ2 ∧ y = f d)
      (fin : Q (.lst (ds.map f)) ρ) : EvN K (fun σ H Q => tLockE (tLc wi g tYes te vs) σ H Q ∨ tLc wi g tYes te vs σ H Q) ρ Q := by
  refine en_lcD hi hd W hv0 hlen (fun i acc => acc = (ds.map f).take i) rfl (fun i d acc hd hp => ?_) (fun acc hp => ?_)
  · subst hp
    refine fun F G H σ v R hv Q' k => turn i d hd F G H σ v R hv Q' fun σ' ρ2 l s R2 q2 => k σ' ρ2 l s R2 (et_yes ⟨rfl, ?_⟩)
    refine ew_weak q2 fun y ρ4 z => ⟨z.1, ?_⟩
    rw [z.2, List.take_add_one]
    simp [hd]
  · subst hp
    have e : (ds.map f).take ds.length = ds.map f := List.take_of_length_le (by simp)
    rw [e]; exact fin
/-- a comprehension: a map -/
theorem en_lcM {wi : TI} {g : TG} {vs : List Nat} {f : D → D} (h : EvI K wi ρ fun ds ρ1 => ownFree ρ1 vs = true ∧ ds.length ≤ 90000 ∧
      (∀ (i : Nat) d, ds[i]? = some d → GV K g vs d (wipeE ρ1 vs) fun ρ2 => EvW K te ρ2 fun y ρ4 => ρ4 = ρ2 ∧ y = f d) ∧
      Q (.lst (ds.map f)) ρ1) : EvN K (tLc wi g tYes te vs) ρ Q := by
  refine en_lc fun F G H σ R R' k => h F G H σ R R' fun J ds ρ' G' H' e R1 Y q => k J ds ρ' G' H' e R1 Y ?_
  obtain ⟨h1, h2, h3, h4⟩ := q
  refine ⟨h1, h2, fun i acc => acc = (ds.map f).take i, rfl, fun i d acc hd hp => ?_, fun acc hp => ?_⟩
  · subst hp
    refine fun F G H σ v R hv Q' k => h3 i d hd F G H σ v R hv Q' fun σ' ρ2 l s R2 q2 => k σ' ρ2 l s R2 (et_yes ⟨rfl, ?_⟩)
    show EvW K te ρ2 _
    refine ew_weak q2 fun y ρ4 z => ⟨z.1, ?_⟩
    show _ ++ [y] = List.take (i + 1) _
    rw [z.2, List.take_add_one]
    simp [hd]
  · subst hp
    have e : (ds.map f).take ds.length = ds.map f := List.take_of_length_le (by simp)
    rw [e]; exact h4
theorem filter_take {p : D → Bool} {ds : List D} {i : Nat} {d : D} (h : ds[i]? = some d) : (ds.take (i + 1)).filter p = (ds.take i).filter p ++ (if p d = true then [d] else []) := by
  rw [List.take_add_one, h, List.filter_append]
  congr 1
  by_cases z : p d = true
  · rw [if_pos z]; exact List.filter_cons_of_pos z
  · rw [if_neg z]; exact List.filter_cons_of_neg z
/-- a comprehension with a test: a filter, then a map -/
theorem en_lcF {wi : TI} {g : TG} {vs : List Nat} {f : D → D} {p : D → Bool} (h : EvI K wi ρ fun ds ρ1 => ownFree ρ1 vs = true ∧ ds.length ≤ 90000 ∧
      (∀ (i : Nat) d, ds[i]? = some d → GV K g vs d (wipeE ρ1 vs) fun ρ2 => EvT K tt ρ2 fun b ρ3 => ρ3 = ρ2 ∧ b = p d ∧ (p d = true → EvW K te ρ2 fun y ρ4 => ρ4 = ρ2 ∧ y = f d)) ∧
      Q (.lst ((ds.filter p).map f)) ρ1) : EvN K (tLc wi g tt te vs) ρ Q := by
  refine en_lc fun F G H σ R R' k => h F G H σ R R' fun J ds ρ' G' H' e R1 Y q => k J ds ρ' G' H' e R1 Y ?_
  obtain ⟨h1, h2, h3, h4⟩ := q
  refine ⟨h1, h2, fun i acc => acc = ((ds.take i).filter p).map f, by simp, fun i d acc hd hp => ?_, fun acc hp => ?_⟩
  · subst hp
    refine fun F G H σ v R hv Q' k => h3 i d hd F G H σ v R hv Q' fun σ' ρ2 l s R2 q2 => k σ' ρ2 l s R2 (et_weak q2 fun b ρ3 z => ⟨z.1, ?_⟩)
    obtain ⟨_, rfl, z⟩ := z
    have e := filter_take (p := p) hd
    cases c : p d with
    | true =>
      rw [if_pos rfl]
      refine ew_weak (z c) fun y ρ4 w => ⟨w.1, ?_⟩
      show _ = List.map f (List.filter p (List.take (i + 1) ds))
      rw [e, c, w.2, if_pos rfl, List.map_append]; rfl
    | false =>
      rw [if_neg (by decide)]
      show _ = List.map f (List.filter p (List.take (i + 1) ds))
      rw [e, c, if_neg (by decide), List.append_nil]
  · subst hp
    rw [List.take_length]; exact h4
/-! ### a def that may raise and hands back a new object -/
def spXN (K : PySem.W.Frag) (T : List D → (D → Prop) → (Str → Str → D → Prop) → Prop) : Sp := fun vs H Q W => ∃ F G ds Qd X, Wd F G H ∧ Reps K G vs ds ∧ T ds Qd X ∧
  (∀ p d G' H', Ex G G' → Wd F G' H' → G' p = none → F p = none → OwnR K G' (H' p) d → Qd d → Q (.ref p) H') ∧ XLink K F G W X
theorem en_callQN {T : List D → (D → Prop) → (Str → Str → D → Prop) → Prop} {W : XK} (h : EvA K ts ρ fun ds ρ1 => T ds (fun d => Q d ρ1) fun _ _ _ => False) : EvN K (tCall (spXN K T) [] W ts) ρ Q := fun F G H σ R Q' k =>
  h F G H σ R _ fun vs ds ρ1 G1 H1 e1 R1 hv q => by
    refine ⟨addF F H1 (ownA ρ1), G1, ds, _, _, R1.wdF (fun _ m => m), by rw [List.append_nil]; exact hv, q, fun p d G' H' e Wd' hG hF ho qd => ?_, fun _ _ _ _ _ _ _ _ _ _ _ _ _ z => z.elim⟩
    have np : p ∉ ownA ρ1 := fun m => by
      obtain ⟨_, _, u, hu, _⟩ := R1.sl.own m
      rw [addF_in m, hu] at hF; cases hF
    rw [addF_out np] at hF
    exact k p d ρ1 G' H' (e1.trans e) (R1.back Wd' e) hG hF np ho qd
theorem ex_callN {T : List D → (D → Prop) → (Str → Str → D → Prop) → Prop} {W : XK} {X : Str → Str → D → Prop} (h : EvA K ts ρ fun ds ρ1 => T ds (fun d => Q d ρ1) X) : EvX K (tCall (spXN K T) [] W ts) W ρ Q X := fun F G H σ R L Q' k =>
  h F G H σ R _ fun vs ds ρ1 G1 H1 e1 R1 hv q => by
    refine ⟨addF F H1 (ownA ρ1), G1, ds, _, X, R1.wdF (fun _ m => m), by rw [List.append_nil]; exact hv, q, fun p d G' H' e Wd' hG hF ho qd => ?_, fun C f v d dx G' H' e Wd' h1 h2 h3 h4 h5 => ?_⟩
    · have np : p ∉ ownA ρ1 := fun m => by
        obtain ⟨_, _, u, hu, _⟩ := R1.sl.own m
        rw [addF_in m, hu] at hF; cases hF
      rw [addF_out np] at hF
      obtain ⟨u, hu, _⟩ := ho.some
      have R2 := R1.back Wd' e
      exact k (.ref p) d ρ1 (upd G' p u) H' ((e1.trans e).trans (Ex.new hG)) (R2.share hu hG hF np) (ownR_rep ho (by rw [upd_same, hu]) (Ex.new hG)) qd
    · refine L C f v d dx G' H' (e1.trans e) (R1.back Wd' e).wd h1 h2 ?_ h4 h5
      by_cases m : dx ∈ ownA ρ1
      · exact (R1.sl.own m).2.1
      · rw [addF_out m] at h3; exact h3
theorem fn_XN {P : Program} {w : World} {mg : Str → Option Value} {base : Heap} {x qual : Str} {params : Arguments} {body : List Stmt} {scope : Scope} {fd : FuncData} {N ps : List Str} {k : Nat} {T : List D → (D → Prop) → (Str → Str → D → Prop) → Prop}
    (F : FunD K x qual params body scope [] [] (He.ga K x) fd) (at_ : mg x = some (.ref (He.ga K x)))
    (bi : ∀ (kV doc pm : Value) (an : Option Addr) (cdv ct : Value) (us : List Value), us.length = ps.length → bindArgs (PySem.W.fnOf x qual params body scope .none kV doc pm an cdv ct) ⟨us, []⟩ = pure (ps.zip us))
    (S : FnScope N ps scope) (hl : ∀ ds Qd X, T ds Qd X → ds.length = ps.length)
    (hb : ∀ (cdv : Value) (A : Around) (outer : List PySem.Env) (s : Shared) (H : Hp) (W : XK), Room k (A.deeper (envOfC qual scope s.heap.objs.size (He.ga K x) cdv)) →
      Takes (cxOf (L2.CX P w) P w K mg base N qual scope (He.ga K x) cdv A outer s H W) (fun cls d _ H => W cls d H) → PassesOwn (model P w) (A.deeper (envOfC qual scope s.heap.objs.size (He.ga K x) cdv)) (envOfC qual scope s.heap.objs.size (He.ga K x) cdv) (cxOf (L2.CX P w) P w K mg base N qual scope (He.ga K x) cdv A outer s H W).xe →
      ∃ t, PSs (cxOf (L2.CX P w) P w K mg base N qual scope (He.ga K x) cdv A outer s H W) body t ∧ ∀ ds Qd X, T ds Qd X → WS K t (envP N ds) { nx := fun _ => False, rt := fun d _ => False, ro := fun d _ => Qd d, W := W, xx := X }) :
    FnX P w K mg base (k + 1) x ps (spXN K T) := by
  refine ⟨⟨fd, F.ok S (fun vs H Q E h => ?_) (fun cdv A outer s H vs Q W hr h => ?_), F.bindsN bi⟩, F.kp, at_⟩
  · obtain ⟨_, _, ds, Qd, X, _, r, t, _⟩ := h
    rw [r.length]; exact hl ds Qd X t
  · obtain ⟨F', G, ds, Qd, X, Wd', r, tt, post, lk⟩ := h
    obtain ⟨t, hd, hw⟩ := hb cdv A outer s H W hr (takes_of rfl rfl rfl rfl) (passes_of rfl)
    refine ⟨t, hd, ?_⟩
    have R : RE K F' G H (L2.start N vs) (envP N ds) := by
      unfold L2.start
      refine ⟨Wd', by rw [r.length]; exact slots_start _ r, by rw [own_start]; exact List.nodup_nil⟩
    refine hw ds Qd X tt F' G H (L2.start N vs) _ R ⟨fun σ' ρ' G' H' e R' q => q.elim, fun v d σ' ρ' G' H' e R' hv q => q.elim, fun σ' ρ' G' H' e R' q => q.elim, fun σ' ρ' G' H' e R' q => q.elim, fun p d σ' ρ' G' H' e R' hG hF _ o q => post p d G' H' e R'.wd hG hF o q, lk⟩
end
end DL

set_option Elab.async false
set_option linter.all false
set_option maxRecDepth 100000
namespace DL
open PySem PySem.Spec PyProof.Rows L2 SrtK RZ
theorem pe_either {X : Cx} {e : Expr} {t u : TE} (h : PE X e t) (h' : PE X e u) : PE X e (fun σ H Q => t σ H Q ∨ u σ H Q) :=
  ⟨fun pins s σ H Q I q => q.elim (fun q => h.run pins s σ H Q I q) fun q => h'.run pins s σ H Q I q⟩
theorem kzipA {X : Cx} {K : PySem.W.Frag} {e e2 : Expr} {ta : TA} {p pos tpos : Pos} {elts : List Expr} {kk : Nat} (h : X.K = K) (hg : Gl X "zip") (hm : X.mg "zip" = none) (ha : PA X [e, e2] ta)
    (hs : starEach [e, e2] X.env = (false, eval e X.env) :: starEach [e2] X.env := by rfl) (hpl : (backTo pos (starEach [e2] X.env)).any (·.1) = false := by rfl) :
    PI X (.Tuple elts kk tpos) (.Call (.Name "zip" p) [e, e2] [] pos) (iZipA K ta) := h ▸ pi_zipA hg hm ha hs hpl
section
variable {K : PySem.W.Frag} {te ta tb tc td ty tv tx tk : TE} {tt tu : TT} {ts : TA} {ρ : Env} {Q : D → Env → Prop} {E : EndD}
def zipD (xs ys : List D) : List D := xs.zipWith (fun x y => D.tup [x, y]) ys
theorem zipD_len {xs ys : List D} : (zipD xs ys).length = min xs.length ys.length := List.length_zipWith ..
theorem zipD_at {xs ys : List D} {i : Nat} {d : D} (h : (zipD xs ys)[i]? = some d) : ∃ x y, xs[i]? = some x ∧ ys[i]? = some y ∧ d = .tup [x, y] := by
  unfold zipD at h
  rw [List.getElem?_zipWith] at h
  cases hx : xs[i]? with
  | none => rw [hx] at h; simp at h
  | some x =>
    cases hy : ys[i]? with
    | none => rw [hx, hy] at h; simp at h
    | some y => rw [hx, hy] at h; simp at h; exact ⟨x, y, rfl, rfl, h.symm⟩
theorem yl_zip {G : Hp} {a b : Addr} {vs ws : List V} {xs ys : List D} (h1 : G a = some (.lst vs)) (h2 : Reps K G vs xs) (h3 : G b = some (.lst ws)) (h4 : Reps K G ws ys) : Yields K G (Itz K a b) (zipD xs ys) where
  go := fun F G2 H2 σ ρ i e R hi => by
    rw [zipD_len] at hi
    have l1 : i < vs.length := by rw [h2.length]; omega
    have l2 : i < ws.length := by rw [h4.length]; omega
    exact ⟨vs, ws, vs[i], ws[i], .inl (.inl (R.wd.g _ _ (e _ _ h1))), .inl (.inl (R.wd.g _ _ (e _ _ h3))), List.getElem?_eq_getElem l1, List.getElem?_eq_getElem l2⟩
  stop := fun F G2 H2 σ ρ e R => ⟨vs, ws, .inl (.inl (R.wd.g _ _ (e _ _ h1))), .inl (.inl (R.wd.g _ _ (e _ _ h3))), by rw [zipD_len, h2.length, h4.length]; omega⟩
  yld := fun F G2 H2 σ ρ i x H3 e R hi y => by
    obtain ⟨T, u, v, rfl, hT, rfl, y1, y2⟩ := y
    have q1 := y1 vs (.inl (.inl (R.wd.g _ _ (e _ _ h1))))
    have q2 := y2 ws (.inl (.inl (R.wd.g _ _ (e _ _ h3))))
    obtain ⟨d1, e1, r1⟩ := h2.getV q1
    obtain ⟨d2, e2, r2⟩ := h4.getV q2
    have en := Ex.new (o := .tup [u, v]) (R.wd.g.none hT)
    refine ⟨_, .tup [d1, d2], en, R.new hT, ?_, .tup upd_same (.cons ((r1.mono e).mono en) (.cons ((r2.mono e).mono en) .nil))⟩
    unfold zipD
    rw [List.getElem?_zipWith, e1, e2]
theorem yl_zipT {G : Hp} {a b : Addr} {vs ws : List V} {xs ys : List D} (h1 : G a = some (.tup vs)) (h2 : Reps K G vs xs) (h3 : G b = some (.tup ws)) (h4 : Reps K G ws ys) : Yields K G (ItzT K a b) (zipD xs ys) where
  go := fun F G2 H2 σ ρ i e R hi => by
    rw [zipD_len] at hi
    have l1 : i < vs.length := by rw [h2.length]; omega
    have l2 : i < ws.length := by rw [h4.length]; omega
    exact ⟨vs, ws, vs[i], ws[i], R.wd.g.sqT (e _ _ h1), R.wd.g.sqT (e _ _ h3), List.getElem?_eq_getElem l1, List.getElem?_eq_getElem l2⟩
  stop := fun F G2 H2 σ ρ e R => ⟨vs, ws, R.wd.g.sqT (e _ _ h1), R.wd.g.sqT (e _ _ h3), by rw [zipD_len, h2.length, h4.length]; omega⟩
  yld := fun F G2 H2 σ ρ i x H3 e R hi y => by
    obtain ⟨T, u, v, rfl, hT, rfl, y1, y2⟩ := y
    have q1 := y1 vs (R.wd.g.sqT (e _ _ h1))
    have q2 := y2 ws (R.wd.g.sqT (e _ _ h3))
    obtain ⟨d1, e1, r1⟩ := h2.getV q1
    obtain ⟨d2, e2, r2⟩ := h4.getV q2
    have en := Ex.new (o := .tup [u, v]) (R.wd.g.none hT)
    refine ⟨_, .tup [d1, d2], en, R.new hT, ?_, .tup upd_same (.cons ((r1.mono e).mono en) (.cons ((r2.mono e).mono en) .nil))⟩
    unfold zipD
    rw [List.getElem?_zipWith, e1, e2]
theorem ei_zip {Q : List D → Env → Prop} (h : EvA K ts ρ fun ds ρ1 => ∃ xs ys, (ds = [.lst xs, .lst ys] ∨ ds = [.tup xs, .tup ys]) ∧ Q (zipD xs ys) ρ1) : EvI K (iZipA K ts) ρ Q := fun F G H σ R R' k =>
  h F G H σ R _ fun vs ds ρ1 G1 H1 e1 R1 hv q => by
    obtain ⟨xs, ys, hds, q⟩ := q
    rcases hds with rfl | rfl
    · obtain ⟨v, w, rfl, a1, a2⟩ := hv.two
      obtain ⟨a, us, rfl, h1, h2⟩ := rep_lst a1
      obtain ⟨b, ws, rfl, h3, h4⟩ := rep_lst a2
      exact ⟨a, b, us, ws, rfl, .inl ⟨.inl (.inl (R1.wd.g _ _ h1)), .inl (.inl (R1.wd.g _ _ h3)), k _ _ ρ1 G1 H1 e1 R1 (yl_zip h1 h2 h3 h4) q⟩⟩
    · obtain ⟨v, w, rfl, a1, a2⟩ := hv.two
      obtain ⟨a, us, rfl, h1, h2⟩ := rep_tup a1
      obtain ⟨b, ws, rfl, h3, h4⟩ := rep_tup a2
      exact ⟨a, b, us, ws, rfl, .inr ⟨R1.wd.g.sqT h1, R1.wd.g.sqT h3, k _ _ ρ1 G1 H1 e1 R1 (yl_zipT h1 h2 h3 h4) q⟩⟩
end
theorem srtK_mem {ks : List (List Key)} {k : List Key} : k ∈ srtK ks ↔ k ∈ ks := (srt_perm lexK_swo ks).mem_iff
theorem srtK_len (ks : List (List Key)) : (srtK ks).length = ks.length := (srt_perm lexK_swo ks).length_eq
theorem srtK_nodup {ks : List (List Key)} (h : ks.Nodup) : (srtK ks).Nodup := (srt_perm lexK_swo ks).nodup_iff.mpr h
/-! ### comprehensions over data of one sort -/
section
variable {K : PySem.W.Frag} {te ta tb tc td ty tv tx tk : TE} {tt tu : TT} {ts : TA} {ρ : Env} {Q : D → Env → Prop} {E : EndD} {α : Type}
theorem filter_take' {p : α → Bool} {ds : List α} {i : Nat} {d : α} (h : ds[i]? = some d) : (ds.take (i + 1)).filter p = (ds.take i).filter p ++ (if p d = true then [d] else []) := by
  rw [List.take_add_one, h, List.filter_append]
  congr 1
  by_cases z : p d = true
  · rw [if_pos z]; exact List.filter_cons_of_pos z
  · rw [if_neg z]; exact List.filter_cons_of_neg z
theorem en_lcFt {wi : TI} {g : TG} {vs : List Nat} (e : α → D) (ys : List α) (f : α → D) (p : α → Bool) (h : EvI K wi ρ fun ds ρ1 => ds = ys.map e ∧ ownFree ρ1 vs = true ∧ ys.length ≤ 90000 ∧
      (∀ y ∈ ys, GV K g vs (e y) (wipeE ρ1 vs) fun ρ2 => EvT K tt ρ2 fun b ρ3 => ρ3 = ρ2 ∧ b = p y ∧ (p y = true → EvW K te ρ2 fun z ρ4 => ρ4 = ρ2 ∧ z = f y)) ∧
      Q (.lst ((ys.filter p).map f)) ρ1) : EvN K (tLc wi g tt te vs) ρ Q := by
  refine en_lc fun F G H σ R R' k => h F G H σ R R' fun J ds ρ' G' H' e R1 Y q => k J ds ρ' G' H' e R1 Y ?_
  obtain ⟨rfl, h1, h2, h3, h4⟩ := q
  refine ⟨h1, by rw [List.length_map]; exact h2, fun i acc => acc = ((ys.take i).filter p).map f, by simp, fun i d acc hd hp => ?_, fun acc hp => ?_⟩
  · subst hp
    rw [List.getElem?_map] at hd
    obtain ⟨y, hy, rfl⟩ := Option.map_eq_some_iff.mp hd
    refine fun F G H σ v R hv Q' k => h3 y (List.mem_of_getElem? hy) F G H σ v R hv Q' fun σ' ρ2 l s R2 q2 => k σ' ρ2 l s R2 (et_weak q2 fun b ρ3 z => ⟨z.1, ?_⟩)
    obtain ⟨_, rfl, z⟩ := z
    have e := filter_take' (p := p) hy
    cases c : p y with
    | true =>
      rw [if_pos rfl]
      refine ew_weak (z c) fun y ρ4 w => ⟨w.1, ?_⟩
      show _ = List.map f (List.filter p (List.take (i + 1) ys))
      rw [e, c, w.2, if_pos rfl, List.map_append]; rfl
    | false =>
      rw [if_neg (by decide)]
      show _ = List.map f (List.filter p (List.take (i + 1) ys))
      rw [e, c, if_neg (by decide), List.append_nil]
  · subst hp
    rw [List.length_map, List.take_length]; exact h4
theorem en_lcMt {wi : TI} {g : TG} {vs : List Nat} (e : α → D) (ys : List α) (f : α → D) (h : EvI K wi ρ fun ds ρ1 => ds = ys.map e ∧ ownFree ρ1 vs = true ∧ ys.length ≤ 90000 ∧
      (∀ y ∈ ys, GV K g vs (e y) (wipeE ρ1 vs) fun ρ2 => EvW K te ρ2 fun z ρ4 => ρ4 = ρ2 ∧ z = f y) ∧
      Q (.lst (ys.map f)) ρ1) : EvN K (tLc wi g tYes te vs) ρ Q := by
  refine en_lc fun F G H σ R R' k => h F G H σ R R' fun J ds ρ' G' H' e R1 Y q => k J ds ρ' G' H' e R1 Y ?_
  obtain ⟨rfl, h1, h2, h3, h4⟩ := q
  refine ⟨h1, by rw [List.length_map]; exact h2, fun i acc => acc = (ys.take i).map f, by simp, fun i d acc hd hp => ?_, fun acc hp => ?_⟩
  · subst hp
    rw [List.getElem?_map] at hd
    obtain ⟨y, hy, rfl⟩ := Option.map_eq_some_iff.mp hd
    refine fun F G H σ v R hv Q' k => h3 y (List.mem_of_getElem? hy) F G H σ v R hv Q' fun σ' ρ2 l s R2 q2 => k σ' ρ2 l s R2 (et_yes ⟨rfl, ?_⟩)
    refine ew_weak q2 fun z ρ4 w => ⟨w.1, ?_⟩
    show _ ++ [z] = List.map f (List.take (i + 1) ys)
    rw [w.2, List.take_add_one, hy, List.map_append]; rfl
  · subst hp
    rw [List.length_map, List.take_length]; exact h4
theorem en_lcDMt {wi : TI} {g : TG} {vs : List Nat} {i0 : Nat} {d0 : D} (e : α → D) (ys : List α) (f : α → D) (hi : ρ[i0]? = some (.sh d0)) (hd : d0.isDict = true) (W : WalkD K wi i0 d0 (ys.map e)) (hv0 : ownFree ρ vs = true) (hlen : ys.length ≤ 90000)
      (turn : ∀ y ∈ ys, GV K g vs (e y) (wipeE ρ vs) fun ρ2 => EvW K te ρ2 fun z ρ4 => ρ4 = ρ2 ∧ z = f y)
      (fin : Q (.lst (ys.map f)) ρ) : EvN K (fun σ H Q => tLockE (tLc wi g tYes te vs) σ H Q ∨ tLc wi g tYes te vs σ H Q) ρ Q := by
  refine en_lcD hi hd W hv0 (by rw [List.length_map]; exact hlen) (fun i acc => acc = (ys.take i).map f) (by simp) (fun i d acc hd hp => ?_) (fun acc hp => ?_)
  · subst hp
    rw [List.getElem?_map] at hd
    obtain ⟨y, hy, rfl⟩ := Option.map_eq_some_iff.mp hd
    refine fun F G H σ v R hv Q' k => turn y (List.mem_of_getElem? hy) F G H σ v R hv Q' fun σ' ρ2 l s R2 q2 => k σ' ρ2 l s R2 (et_yes ⟨rfl, ?_⟩)
    refine ew_weak q2 fun z ρ4 w => ⟨w.1, ?_⟩
    rw [w.2, List.take_add_one, hy, List.map_append]; rfl
  · subst hp
    rw [List.length_map, List.take_length]; exact fin
end
/-! ### dicts of ints -/
section
variable {κ : Type} [DecidableEq κ]
def ilift (s : List (κ × Int)) : List (κ × D) := s.map fun p => (p.1, .int p.2)
def iget (s : List (κ × Int)) (k : κ) : Int := ((s.find? fun kv => decide (kv.1 = k)).map (·.2)).getD 0
def iput (s : List (κ × Int)) (k : κ) (v : Int) : List (κ × Int) := if (s.any fun kv => decide (kv.1 = k)) = true then s.map (fun kv => if kv.1 = k then (kv.1, v) else kv) else s ++ [(k, v)]
theorem ilift_keys (s : List (κ × Int)) : (ilift s).map (·.1) = s.map (·.1) := by unfold ilift; rw [List.map_map]; rfl
theorem ilift_len (s : List (κ × Int)) : (ilift s).length = s.length := List.length_map ..
theorem dget_ilift (s : List (κ × Int)) (k : κ) : dget (ilift s) k = (s.find? fun kv => decide (kv.1 = k)).map fun p => D.int p.2 := by
  unfold dget ilift
  rw [List.find?_map]
  cases h : s.find? ((fun kv => decide (kv.1 = k)) ∘ fun p => (p.1, D.int p.2)) with
  | none =>
    have : (s.find? fun kv => decide (kv.1 = k)) = none := h
    rw [this]; rfl
  | some p =>
    have : (s.find? fun kv => decide (kv.1 = k)) = some p := h
    rw [this]; rfl
theorem dget_ilift_getD (s : List (κ × Int)) (k : κ) : (dget (ilift s) k).getD (.int 0) = .int (iget s k) := by
  rw [dget_ilift]
  unfold iget
  cases s.find? fun kv => decide (kv.1 = k) <;> rfl
theorem dget_ilift_mem {s : List (κ × Int)} {k : κ} (h : k ∈ s.map (·.1)) : dget (ilift s) k = some (.int (iget s k)) := by
  rw [dget_ilift]
  unfold iget
  cases z : s.find? fun kv => decide (kv.1 = k) with
  | some p => rfl
  | none =>
    rw [List.find?_eq_none] at z
    obtain ⟨p, hp, rfl⟩ := List.mem_map.mp h
    exact absurd (decide_eq_true rfl) (z p hp)
theorem dput_ilift (s : List (κ × Int)) (k : κ) (v : Int) : dput (ilift s) k (.int v) = ilift (iput s k v) := by
  unfold dput iput ilift
  rw [List.any_map]
  have e : (s.any ((fun kv => decide (kv.1 = k)) ∘ fun p => (p.1, D.int p.2))) = s.any fun kv => decide (kv.1 = k) := rfl
  rw [e]
  split
  · rw [List.map_map, List.map_map]
    refine List.map_congr_left fun p _ => ?_
    simp only [Function.comp]
    split <;> rfl
  · rw [List.map_append]; rfl
theorem iput_keys (s : List (κ × Int)) (k : κ) (v : Int) : (iput s k v).map (·.1) = if k ∈ s.map (·.1) then s.map (·.1) else s.map (·.1) ++ [k] := by
  unfold iput
  have e : (s.any fun kv => decide (kv.1 = k)) = decide (k ∈ s.map (·.1)) := by
    rw [Bool.eq_iff_iff, List.any_eq_true, decide_eq_true_eq, List.mem_map]
    constructor
    · rintro ⟨p, hp, e⟩; exact ⟨p, hp, of_decide_eq_true e⟩
    · rintro ⟨p, hp, e⟩; exact ⟨p, hp, decide_eq_true e⟩
  rw [e]
  by_cases h : k ∈ s.map (·.1)
  · rw [if_pos (decide_eq_true h), if_pos h, List.map_map]
    refine List.map_congr_left fun p _ => ?_
    simp only [Function.comp]
    split <;> rfl
  · rw [if_neg (by rw [decide_eq_false h]; decide), if_neg h, List.map_append]; rfl
theorem iput_nodup {s : List (κ × Int)} (h : (s.map (·.1)).Nodup) (k : κ) (v : Int) : ((iput s k v).map (·.1)).Nodup := by
  rw [iput_keys]
  split
  · exact h
  · rename_i hk
    rw [List.nodup_append]
    exact ⟨h, List.nodup_cons.mpr ⟨List.not_mem_nil, List.nodup_nil⟩, fun a ha b hb z => by rw [List.mem_singleton.mp hb] at z; exact hk (z ▸ ha)⟩
theorem iput_len (s : List (κ × Int)) (k : κ) (v : Int) : (iput s k v).length ≤ s.length + 1 := by
  unfold iput
  split
  · rw [List.length_map]; omega
  · simp
theorem iget_mem : ∀ {s : List (κ × Int)}, (s.map (·.1)).Nodup → ∀ p ∈ s, iget s p.1 = p.2
  | [], _, p, h => by cases h
  | q :: s, nd, p, h => by
    rw [List.map_cons, List.nodup_cons] at nd
    unfold iget
    rw [List.find?_cons]
    rcases List.mem_cons.mp h with e | h
    · subst e; rw [decide_eq_true rfl]; rfl
    · have ne : q.1 ≠ p.1 := fun z => nd.1 (z ▸ List.mem_map.mpr ⟨p, h, rfl⟩)
      rw [decide_eq_false ne]
      exact iget_mem nd.2 p h
/-- amounts added up by a key -/
def sumBy {α : Type} (key : α → κ) (amt : α → Int) (rs : List α) : List (κ × Int) := rs.foldl (fun s r => iput s (key r) (iget s (key r) + amt r)) []
theorem sumBy_snoc {α : Type} (key : α → κ) (amt : α → Int) (rs : List α) (r : α) : sumBy key amt (rs ++ [r]) = iput (sumBy key amt rs) (key r) (iget (sumBy key amt rs) (key r) + amt r) := by
  unfold sumBy
  rw [List.foldl_append]; rfl
theorem sumBy_nodup {α : Type} (key : α → κ) (amt : α → Int) (rs : List α) : ((sumBy key amt rs).map (·.1)).Nodup := by
  have h : ∀ (rs : List α) (s : List (κ × Int)), (s.map (·.1)).Nodup → ((rs.foldl (fun s r => iput s (key r) (iget s (key r) + amt r)) s).map (·.1)).Nodup := by
    intro rs
    induction rs with
    | nil => intro s h; exact h
    | cons r rs ih => intro s h; exact ih _ (iput_nodup h _ _)
  exact h rs [] List.nodup_nil
theorem sumBy_len {α : Type} (key : α → κ) (amt : α → Int) (rs : List α) : (sumBy key amt rs).length ≤ rs.length := by
  have h : ∀ (rs : List α) (s : List (κ × Int)), (rs.foldl (fun s r => iput s (key r) (iget s (key r) + amt r)) s).length ≤ s.length + rs.length := by
    intro rs
    induction rs with
    | nil => intro s; simp
    | cons r rs ih =>
      intro s
      rw [List.foldl_cons, List.length_cons]
      have h1 := ih (iput s (key r) (iget s (key r) + amt r))
      have h2 := iput_len s (key r) (iget s (key r) + amt r)
      omega
  have := h rs []
  unfold sumBy
  simpa using this
theorem sumBy_keys {α : Type} (key : α → κ) (amt : α → Int) (rs : List α) : ∀ k ∈ (sumBy key amt rs).map (·.1), ∃ r ∈ rs, k = key r := by
  have h : ∀ (rs : List α) (s : List (κ × Int)) k, k ∈ (rs.foldl (fun s r => iput s (key r) (iget s (key r) + amt r)) s).map (·.1) → k ∈ s.map (·.1) ∨ ∃ r ∈ rs, k = key r := by
    intro rs
    induction rs with
    | nil => intro s k h; exact .inl h
    | cons r rs ih =>
      intro s k h
      rcases ih _ k h with z | ⟨r', m, e⟩
      · rw [iput_keys] at z
        split at z
        · exact .inl z
        · rcases List.mem_append.mp z with z | z
          · exact .inl z
          · exact .inr ⟨r, List.mem_cons_self, List.mem_singleton.mp z⟩
      · exact .inr ⟨r', List.mem_cons_of_mem _ m, e⟩
  intro k hk
  rcases h rs [] k hk with z | z
  · cases z
  · exact z
/-- pairs with unlike keys, put one after another, stand as they are -/
theorem dputs_nodup : ∀ (ps acc : List (κ × D)), ((acc ++ ps).map (·.1)).Nodup → dputs acc ps = acc ++ ps
  | [], acc, _ => (List.append_nil _).symm
  | p :: ps, acc, h => by
    have hk : p.1 ∉ acc.map (·.1) := fun m => by
      rw [List.map_append, List.nodup_append] at h
      exact h.2.2 _ m _ (by simp) rfl
    have e : dput acc p.1 p.2 = acc ++ [p] := by
      unfold dput
      have : (acc.any fun kv => decide (kv.1 = p.1)) = false := by
        rw [Bool.eq_false_iff]
        intro z
        obtain ⟨q, hq, e⟩ := List.any_eq_true.mp z
        exact hk (List.mem_map.mpr ⟨q, hq, of_decide_eq_true e⟩)
      rw [this, if_neg (by decide)]
    show dputs (dput acc p.1 p.2) ps = _
    rw [e, dputs_nodup ps (acc ++ [p]) (by rw [List.append_assoc]; exact h), List.append_assoc]; rfl
end
end DL

set_option Elab.async false
set_option linter.all false
set_option maxRecDepth 100000
namespace DL
open PySem PySem.Spec PyProof.Rows L2 SrtK
/-! ### a law whose lambdas ask its table of code objects -/
def spT (K : PySem.W.Frag) (Pt : Addr) (q : Str) (T : D → (D → Prop) → Prop) : Sp := fun vs H Q _ => ∃ v F G d Qd, vs = [v] ∧ Wd F G H ∧ Rep K G v d ∧ G Pt = none ∧ F Pt = none ∧ H Pt = some (.tbl #[]) ∧ T d Qd ∧
  ∀ v d G' H', Ex G G' → Wd F G' H' → Rep K G' v d → Qd d → Q v H'
theorem slots_un {K : PySem.W.Frag} {F G H : Hp} : ∀ n : Nat, Slots K F G H (List.replicate n none) (List.replicate n Sl.un)
  | 0 => trivial
  | n + 1 => ⟨trivial, slots_un n⟩
theorem fn_T {P : Program} {w : World} {K : PySem.W.Frag} {mg : Str → Option Value} {base : Heap} {x qual : Str} {params : Arguments} {body : List Stmt} {scope : Scope} {f : Addr} {fd : FuncData} {N ps : List Str} {k : Nat} {T : D → (D → Prop) → Prop} {Pt : Addr} {q : Str}
    (F : FunD K x qual params body scope [] [] f fd) (S : FnScope N ps scope) (hps : ps.length = 1) (hN : N ≠ [])
    (hb : ∀ (cdv : Value) (A : Around) (outer : List PySem.Env) (s : Shared) (H : Hp) (E : XK), fd.code = cdv → Room k (A.deeper (envOfC qual scope s.heap.objs.size f cdv)) →
      ∃ t, PSs (cxOf CX0 P w K mg base N qual scope f cdv A outer s H E).nox body t ∧ ∀ d Qd, T d Qd → WS K t (.tab d Pt q :: List.replicate (N.length - 1) .un) { nx := fun _ => False, rt := fun d _ => Qd d }) :
    FnOk P w K mg base CX0 (k + 1) f fd ps (spT K Pt q T) := by
  obtain ⟨oc, od, dV, kV, doc, pm, an, cdv, ct, osl, rfl, lk, hcd, _, _⟩ := F.ex
  refine fn_of lk hcd S (fun vs H Q E h => ?_) fun A outer s H vs Q E hr h => ?_
  · obtain ⟨v, _, _, _, _, rfl, _⟩ := h
    exact hps.symm
  · obtain ⟨v, F', G, d, Qd, rfl, W, r, hG, hF, hH, tt, post⟩ := h
    obtain ⟨t, hd, hw⟩ := hb cdv A outer s H E rfl hr
    refine ⟨t, PSs.nox hd, ?_⟩
    have es : L2.start N [v] = some v :: List.replicate (N.length - 1) none := rfl
    have R : RE K F' G H (L2.start N [v]) (.tab d Pt q :: List.replicate (N.length - 1) .un) := by
      rw [es]
      refine ⟨W, ⟨⟨⟨v, rfl, r⟩, hG, hF, #[], hH, ?_, fun pos cv hc => ?_⟩, slots_un _⟩, ?_⟩
      · simp [TriplesOk]
      · simp [codeAmong] at hc
      · show (Pt :: ownA (List.replicate (N.length - 1) Sl.un)).Nodup
        rw [ownA_un]
        exact List.nodup_cons.mpr ⟨List.not_mem_nil, List.nodup_nil⟩
    exact hw d Qd tt F' G H _ _ R ⟨fun σ' ρ' G' H' e R' q => q.elim, fun v d σ' ρ' G' H' e R' hv q => post v d G' H' e R'.wd hv q, fun σ' ρ' G' H' e R' q => q.elim, fun σ' ρ' G' H' e R' q => q.elim, fun p d σ' ρ' G' H' e R' _ _ _ _ q => q.elim, fun C f v d dx G' H' _ _ _ _ _ _ q => q.elim⟩
/-- the script's start -/
theorem spT_start {K : PySem.W.Frag} {Pt : Addr} {q : Str} {T : D → (D → Prop) → Prop} {H : Hp} {a : Addr} {ns : List Int} (hP : H Pt = some (.tbl #[])) (hS : SqL K H a (ns.map V.int)) (ht : T (.scr ns) fun d => d = .bl true) :
    spT K Pt q T [.ref a] H (fun v _ => v = .bl true) fun _ _ _ => False := by
  have ne : Rd H a (.lst (ns.map V.int)) → a ≠ Pt := fun h z => by
    subst z
    rcases h with h | ⟨o, h⟩ <;> rw [hP] at h <;> cases h
  refine ⟨.ref a, fun _ => none, fun b => if b = Pt then none else H b, .scr ns, _, rfl, ⟨fun _ _ z => (nomatch z), fun b o z => ?_, fun _ _ z => (nomatch z), fun _ _ z => (nomatch z)⟩, .scr ?_, if_pos rfl, rfl, hP, ht, fun v d G' H' e W r q => by subst q; exact rep_bl r⟩
  · have z : (if b = Pt then none else H b) = some o := z
    by_cases hb : b = Pt
    · rw [if_pos hb] at z; cases z
    · rw [if_neg hb] at z; exact z
  · rcases hS with hS | hS
    · refine .inl ?_
      have := ne hS
      unfold Rd at hS ⊢
      show (if a = Pt then none else H a) = _ ∨ ∃ o, (if a = Pt then none else H a) = _
      rw [if_neg this]
      exact hS
    · exact .inr hS
/-! ### the same data twice -/
inductive PyOk : Nat → D → Prop
  | non {n : Nat} : PyOk n .non
  | bl {n : Nat} (b : Bool) : PyOk n (.bl b)
  | int {n : Nat} (i : Int) : PyOk n (.int i)
  | str {n : Nat} {x : Str} : PyData.strOk x = true → PyOk n (.str x)
  | lst {n : Nat} {xs : List D} : (∀ x ∈ xs, PyOk n x) → PyOk (n + 1) (.lst xs)
  | tup {n : Nat} {xs : List D} : (∀ x ∈ xs, PyOk n x) → PyOk (n + 1) (.tup xs)
theorem pyOk_all {n : Nat} (ih : ∀ x, PyOk n x → ∃ p, toPy x = some p ∧ p.canLay0 = true ∧ p.depth ≤ n) : ∀ xs : List D, (∀ x ∈ xs, PyOk n x) → ∃ ps, toPys xs = some ps ∧ PyData.canLayAll0 ps = true ∧ PyData.depthAll ps ≤ n
  | [], _ => ⟨[], by rw [toPys], by simp [PyData.canLayAll0], by simp [PyData.depthAll]⟩
  | x :: xs, h => by
    obtain ⟨p, h1, h2, h3⟩ := ih x (h x List.mem_cons_self)
    obtain ⟨ps, g1, g2, g3⟩ := pyOk_all ih xs fun y hy => h y (List.mem_cons_of_mem _ hy)
    refine ⟨p :: ps, by rw [toPys, h1, g1], ?_, ?_⟩
    · rw [PyData.canLayAll0, h2, g2]; rfl
    · rw [PyData.depthAll]; omega
theorem pyOk_py : ∀ (n : Nat) (x : D), PyOk n x → ∃ p, toPy x = some p ∧ p.canLay0 = true ∧ p.depth ≤ n
  | _, _, .non => ⟨.none, by rw [toPy], by simp [PyData.canLay0], by simp [PyData.depth]⟩
  | _, _, .bl b => ⟨.bool b, by rw [toPy], by simp [PyData.canLay0], by simp [PyData.depth]⟩
  | _, _, .int b => ⟨.int b, by rw [toPy], by simp [PyData.canLay0], by simp [PyData.depth]⟩
  | _, _, .str (x := b) h => ⟨.str b, by rw [toPy], by rw [PyData.canLay0]; exact h, by simp [PyData.depth]⟩
  | n + 1, .lst xs, .lst h => by
    obtain ⟨ps, h1, h2, h3⟩ := pyOk_all (pyOk_py n) xs h
    exact ⟨.list ps, by rw [toPy, h1]; rfl, by rw [PyData.canLay0]; exact h2, by rw [PyData.depth]; omega⟩
  | n + 1, .tup xs, .tup h => by
    obtain ⟨ps, h1, h2, h3⟩ := pyOk_all (pyOk_py n) xs h
    exact ⟨.tuple ps, by rw [toPy, h1]; rfl, by rw [PyData.canLay0]; exact h2, by rw [PyData.depth]; omega⟩
section
variable {K : PySem.W.Frag} {te ta tb tc td ty tv tx tk : TE} {tt tu : TT} {ts : TA} {t u : TS} {ρ : Env} {Q : D → Env → Prop} {E : EndD}
theorem op2_neSelf {x : D} {n : Nat} (h : PyOk n x) (hn : n ≤ 64) (q : Q (.bl false) ρ) : Op2 K (rNeD K) x x ρ Q := by
  obtain ⟨p, h1, h2, h3⟩ := pyOk_py n x h
  have sh : SeqAt.shaped p = true := by
    unfold SeqAt.shaped
    rw [h2, decide_eq_true (Nat.le_trans h3 hn)]; rfl
  refine op2_neD h1 h1 sh sh ?_
  rw [SeqAt.eqv_refl p h2]
  exact q
theorem op2_eqSelf {x : D} {n : Nat} (h : PyOk n x) (hn : n ≤ 64) (q : Q (.bl true) ρ) : Op2 K (rEqD K) x x ρ Q := by
  obtain ⟨p, h1, h2, h3⟩ := pyOk_py n x h
  have sh : SeqAt.shaped p = true := by
    unfold SeqAt.shaped
    rw [h2, decide_eq_true (Nat.le_trans h3 hn)]; rfl
  refine op2_eqD h1 h1 sh sh ?_
  rw [SeqAt.eqv_refl p h2]
  exact q
/-- what stands between two statements -/
theorem ws_mid (C : Env → Prop) (h : WS K t ρ { E with nx := C }) (k : ∀ ρ', C ρ' → WS K u ρ' E) : WS K (tSeq t u) ρ E := ws_seq fun F G H σ Dn R L => h F G H σ Dn R ⟨fun σ' ρ' G' H' e R' q => L.nx σ' ρ' G' H' e R' (k ρ' q), L.rt, L.bk, L.ct, L.ro, L.xx⟩
end
end DL

set_option Elab.async false
set_option linter.all false
set_option maxRecDepth 100000
namespace K25
open PySem PySem.Spec PyProof.Rows L2 DL SrtK
def top (i : Nat) : Stmt := PySem.Challenge.pw_seatroads_k25_rows_told.main.body.getD i (.Pass ⟨0, 0, 0, 0⟩)
def inCls (i j : Nat) : Stmt := match top i with
  | .ClassDef _ _ _ b _ _ _ _ _ _ _ => b.getD j (.Pass ⟨0, 0, 0, 0⟩)
  | _ => .Pass ⟨0, 0, 0, 0⟩
abbrev s_BadRow___init__ : Stmt := (inCls 2 0)
abbrev s_is_list : Stmt := (top 6)
abbrev s_is_name : Stmt := (top 7)
abbrev s_is_whole : Stmt := (top 8)
abbrev s_is_account : Stmt := (top 12)
abbrev s_is_row : Stmt := (top 13)
abbrev s_check_rows : Stmt := (top 14)
abbrev s_added : Stmt := (top 15)
abbrev s_is_even : Stmt := (top 16)
abbrev s_told_rows : Stmt := (top 17)
abbrev s_is_balanced : Stmt := (top 18)
abbrev s__law_source : Stmt := (top 20)
abbrev s__law_draw : Stmt := (top 21)
abbrev s__law_pick : Stmt := (top 22)
abbrev s__law_same : Stmt := (top 23)
abbrev s__law_some_rows : Stmt := (top 24)
abbrev s__law_sums : Stmt := (top 25)
abbrev s__law_told : Stmt := (top 26)
abbrev s__law_balanced : Stmt := (top 27)
abbrev s__law_tried : Stmt := (top 28)
abbrev s_law : Stmt := (top 29)
structure TX (P : Program) (K : PySem.W.Frag) (mg : Str → Option Value) : Prop where
  n_ValueError : mg "ValueError" = none
  n_all : mg "all" = none
  n_bool : mg "bool" = none
  n_dict : mg "dict" = none
  n_enumerate : mg "enumerate" = none
  n_int : mg "int" = none
  n_isinstance : mg "isinstance" = none
  n_len : mg "len" = none
  n_list : mg "list" = none
  n_min : mg "min" = none
  n_range : mg "range" = none
  n_sorted : mg "sorted" = none
  n_str : mg "str" = none
  n_super : mg "super" = none
  n_tuple : mg "tuple" = none
  n_zip : mg "zip" = none
  g_is_list : mg "is_list" = some (.ref (He.ga K "is_list"))
  g_is_name : mg "is_name" = some (.ref (He.ga K "is_name"))
  g_is_whole : mg "is_whole" = some (.ref (He.ga K "is_whole"))
  g_is_account : mg "is_account" = some (.ref (He.ga K "is_account"))
  g_is_row : mg "is_row" = some (.ref (He.ga K "is_row"))
  g_check_rows : mg "check_rows" = some (.ref (He.ga K "check_rows"))
  g_added : mg "added" = some (.ref (He.ga K "added"))
  g_is_even : mg "is_even" = some (.ref (He.ga K "is_even"))
  g_told_rows : mg "told_rows" = some (.ref (He.ga K "told_rows"))
  g_is_balanced : mg "is_balanced" = some (.ref (He.ga K "is_balanced"))
  g__law_source : mg "_law_source" = some (.ref (He.ga K "_law_source"))
  g__law_draw : mg "_law_draw" = some (.ref (He.ga K "_law_draw"))
  g__law_pick : mg "_law_pick" = some (.ref (He.ga K "_law_pick"))
  g__law_same : mg "_law_same" = some (.ref (He.ga K "_law_same"))
  g__law_some_rows : mg "_law_some_rows" = some (.ref (He.ga K "_law_some_rows"))
  g__law_sums : mg "_law_sums" = some (.ref (He.ga K "_law_sums"))
  g__law_told : mg "_law_told" = some (.ref (He.ga K "_law_told"))
  g__law_balanced : mg "_law_balanced" = some (.ref (He.ga K "_law_balanced"))
  g__law_tried : mg "_law_tried" = some (.ref (He.ga K "_law_tried"))
  g_law : mg "law" = some (.ref (He.ga K "law"))
  g_OfficeError : mg "OfficeError" = some (.ref (He.ga K "OfficeError"))
  g_BadRow : mg "BadRow" = some (.ref (He.ga K "BadRow"))
  S_BadRow : EXS.SupC K P (He.ga K "BadRow") (He.ma K (He.ga K "BadRow") "__init__") "index" "index"
  xf_BadRow : XfC K (He.ga K "BadRow")
  xm_BadRow : PySem.W.exmOne K (.ref (He.ga K "BadRow")) (.ref (He.ga K "BadRow")) = some true
  xn_BadRow : PySem.W.findIn K (.ref (He.ga K "BadRow")) "index" = some none
  c_SIGNS : ∃ t, mg "SIGNS" = some (.str "abcdefghijklmnopqrstuvwxyz0123456789" t)
  c_LONGEST : ∃ t, mg "LONGEST" = some (.int 8 t)
  c_TILL : ∃ t, mg "TILL" = some (.str "the-till" t)
  c_POOL : ∃ t, mg "POOL" = some (.str "the-pool" t)
  F_is_list : ∃ fd, FunD K "is_list" "is_list" (defArgs s_is_list) (defBody s_is_list) (defScope s_is_list) [] [] (He.ga K "is_list") fd
  F_is_name : ∃ fd, FunD K "is_name" "is_name" (defArgs s_is_name) (defBody s_is_name) (defScope s_is_name) [] [] (He.ga K "is_name") fd
  F_is_whole : ∃ fd, FunD K "is_whole" "is_whole" (defArgs s_is_whole) (defBody s_is_whole) (defScope s_is_whole) [] [] (He.ga K "is_whole") fd
  F_is_account : ∃ fd, FunD K "is_account" "is_account" (defArgs s_is_account) (defBody s_is_account) (defScope s_is_account) [] [] (He.ga K "is_account") fd
  F_is_row : ∃ fd, FunD K "is_row" "is_row" (defArgs s_is_row) (defBody s_is_row) (defScope s_is_row) [] [] (He.ga K "is_row") fd
  F_check_rows : ∃ fd, FunD K "check_rows" "check_rows" (defArgs s_check_rows) (defBody s_check_rows) (defScope s_check_rows) [] [] (He.ga K "check_rows") fd
  F_added : ∃ fd, FunD K "added" "added" (defArgs s_added) (defBody s_added) (defScope s_added) [] [] (He.ga K "added") fd
  F_is_even : ∃ fd, FunD K "is_even" "is_even" (defArgs s_is_even) (defBody s_is_even) (defScope s_is_even) [] [] (He.ga K "is_even") fd
  F_told_rows : ∃ fd, FunD K "told_rows" "told_rows" (defArgs s_told_rows) (defBody s_told_rows) (defScope s_told_rows) [] [] (He.ga K "told_rows") fd
  F_is_balanced : ∃ fd, FunD K "is_balanced" "is_balanced" (defArgs s_is_balanced) (defBody s_is_balanced) (defScope s_is_balanced) [] [] (He.ga K "is_balanced") fd
  F__law_source : ∃ fd, FunD K "_law_source" "_law_source" (defArgs s__law_source) (defBody s__law_source) (defScope s__law_source) [] [] (He.ga K "_law_source") fd
  F__law_draw : ∃ fd, FunD K "_law_draw" "_law_draw" (defArgs s__law_draw) (defBody s__law_draw) (defScope s__law_draw) [] [] (He.ga K "_law_draw") fd
  F__law_pick : ∃ fd, FunD K "_law_pick" "_law_pick" (defArgs s__law_pick) (defBody s__law_pick) (defScope s__law_pick) [] [] (He.ga K "_law_pick") fd
  F__law_same : ∃ fd, FunD K "_law_same" "_law_same" (defArgs s__law_same) (defBody s__law_same) (defScope s__law_same) [] [] (He.ga K "_law_same") fd
  F__law_some_rows : ∃ fd, FunD K "_law_some_rows" "_law_some_rows" (defArgs s__law_some_rows) (defBody s__law_some_rows) (defScope s__law_some_rows) [] [] (He.ga K "_law_some_rows") fd
  F__law_sums : ∃ fd, FunD K "_law_sums" "_law_sums" (defArgs s__law_sums) (defBody s__law_sums) (defScope s__law_sums) [] [] (He.ga K "_law_sums") fd
  F__law_told : ∃ fd, FunD K "_law_told" "_law_told" (defArgs s__law_told) (defBody s__law_told) (defScope s__law_told) [] [] (He.ga K "_law_told") fd
  F__law_balanced : ∃ fd, FunD K "_law_balanced" "_law_balanced" (defArgs s__law_balanced) (defBody s__law_balanced) (defScope s__law_balanced) [] [] (He.ga K "_law_balanced") fd
  F__law_tried : ∃ fd, FunD K "_law_tried" "_law_tried" (defArgs s__law_tried) (defBody s__law_tried) (defScope s__law_tried) [] [] (He.ga K "_law_tried") fd
  F_law : ∃ fd, FunD K "law" "law" (defArgs s_law) (defBody s_law) (defScope s_law) [] [] (He.ga K "law") fd
/-! ### data that the law hands about -/
inductive Ok : D → Prop
  | non : Ok .non
  | bl (b : Bool) : Ok (.bl b)
  | int (i : Int) : Ok (.int i)
  | str {x : Str} : x.length ≤ 1000 → Ok (.str x)
  | lst {xs : List D} : xs.length ≤ 1000 → (∀ x ∈ xs, Ok x) → Ok (.lst xs)
  | tup {xs : List D} : xs.length ≤ 1000 → (∀ x ∈ xs, Ok x) → Ok (.tup xs)
  | dk {kvs : List (Key × D)} : kvs.length ≤ 1000 → Ok (.dk kvs)
theorem Ok.plain {d : D} (h : Ok d) : d.plain = true := by cases h <;> rfl
theorem Ok.seq {d : D} {xs : List D} (h : Ok d) (e : d.seq = some xs) : xs.length ≤ 1000 ∧ ∀ x ∈ xs, Ok x := by
  cases h with
  | lst a b => cases e; exact ⟨a, b⟩
  | tup a b => cases e; exact ⟨a, b⟩
  | _ => cases e
theorem Ok.mem {d : D} {xs : List D} (h : Ok d) (e : d.seq = some xs) {i : Nat} {x : D} (hx : xs[i]? = some x) : Ok x := (h.seq e).2 x (List.mem_of_getElem? hx)
theorem okS {x : Str} (h : decide (x.length ≤ 1000) = true) : Ok (.str x) := .str (of_decide_eq_true h)
theorem ite_b {b : Bool} {A B : Prop} (h1 : b = true → A) (h2 : b = false → B) : if b = true then A else B := by
  cases b with
  | true => exact h1 rfl
  | false => exact h2 rfl
theorem mem2 {P : D → Prop} {x y : D} (hx : P x) (hy : P y) : ∀ d ∈ [x, y], P d := fun d hd => by
  simp only [List.mem_cons, List.not_mem_nil, or_false] at hd
  rcases hd with rfl | rfl
  · exact hx
  · exact hy
theorem mem1 {P : D → Prop} {x : D} (hx : P x) : ∀ d ∈ [x], P d := fun d hd => by
  rw [List.mem_singleton.mp hd]; exact hx
theorem memc {P : D → Prop} {x : D} {xs : List D} (hx : P x) (hs : ∀ d ∈ xs, P d) : ∀ d ∈ x :: xs, P d := fun d hd => by
  rcases List.mem_cons.mp hd with rfl | z
  · exact hx
  · exact hs d z
theorem memn {P : D → Prop} : ∀ d ∈ ([] : List D), P d := fun d hd => (nomatch hd)
theorem mema {P : D → Prop} {xs ys : List D} (hx : ∀ d ∈ xs, P d) (hy : ∀ d ∈ ys, P d) : ∀ d ∈ xs ++ ys, P d := fun d hd => (List.mem_append.mp hd).elim (hx d) (hy d)
def isListD (d : D) : Bool := tyIs d.ty "list" || tyIs d.ty "tuple"
theorem seq_isList {d : D} (h : d.seq = none) (o : Ok d) : isListD d = false := by
  cases o <;> first | rfl | cases h
theorem seq_isList' {d : D} {xs : List D} (h : d.seq = some xs) : isListD d = true := by
  cases d <;> first | rfl | cases h
def signs : Str := "abcdefghijklmnopqrstuvwxyz0123456789"
def isNameS (x : Str) : Bool := decide ((1 : Int) ≤ x.length) && (decide ((x.length : Int) ≤ 8) && x.cps.toList.all fun c => decide (c ∈ signs.cps.toList))
def isNameD : D → Bool
  | .str x => isNameS x
  | _ => false
def isWholeD : D → Bool
  | .int _ => true
  | _ => false
def T1 (f : D → Bool) : List D → (D → Prop) → Prop := fun ds Q => ∃ d, ds = [d] ∧ Ok d ∧ Q (.bl (f d))
section
variable {P : Program} {w : World} {K : PySem.W.Frag} {mg : Str → Option Value} {base : Heap}
abbrev T_is_list := T1 isListD
abbrev N_is_list : List Str := ["thing"]
theorem S_is_list : FnScope N_is_list ["thing"] (defScope s_is_list) := ⟨rfl, rfl, rfl, by decide +kernel, rfl, by decide +kernel, by decide +kernel⟩
theorem ok_is_list (T : TX P K mg) : FnB P w K mg base 1 "is_list" ["thing"] (spP K T_is_list) := by
  obtain ⟨fd, F⟩ := T.F_is_list
  refine fn_P (k := 0) F T.g_is_list (fun _ _ _ _ _ _ us hl => match us, hl with | [_], _ => rfl) S_is_list (fun ds Qd h => by first | (obtain ⟨rfl, _⟩ := h; rfl) | (obtain ⟨_, rfl, _⟩ := h; rfl) | (obtain ⟨_, _, rfl, _⟩ := h; rfl) | (obtain ⟨_, _, _, rfl, _⟩ := h; rfl) | (obtain ⟨_, _, _, _, rfl, _⟩ := h; rfl) | (obtain ⟨_, _, _, _, _, rfl, _⟩ := h; rfl) | (obtain ⟨_, _, _, _, _, _, rfl, _⟩ := h; rfl)) fun cdv A outer s H E hr => ⟨_, (pss_one (ps_ret (pe_callB (kisiT (K := K) rfl) (by rfl) T.n_isinstance (by decide +kernel) (pa_cons (pv 0) (pa_cons (pe_tup (pa_cons (pe_bltn (v := .ty "list") (by rfl) T.n_list (by decide +kernel) rfl) (pa_cons (pe_bltn (v := .ty "tuple") (by rfl) T.n_tuple (by decide +kernel) rfl) pa_nil))) pa_nil))))), fun ds Qd h => ?_⟩
  obtain ⟨d, rfl, hd, q⟩ := h
  exact ws_ret (ew_isi2 (by decide) (by decide) (ew_var rfl ⟨hd.plain, q⟩))
abbrev T_is_whole := T1 isWholeD
abbrev N_is_whole : List Str := ["thing"]
theorem S_is_whole : FnScope N_is_whole ["thing"] (defScope s_is_whole) := ⟨rfl, rfl, rfl, by decide +kernel, rfl, by decide +kernel, by decide +kernel⟩
theorem ok_is_whole (T : TX P K mg) : FnB P w K mg base 1 "is_whole" ["thing"] (spP K T_is_whole) := by
  obtain ⟨fd, F⟩ := T.F_is_whole
  refine fn_P (k := 0) F T.g_is_whole (fun _ _ _ _ _ _ us hl => match us, hl with | [_], _ => rfl) S_is_whole (fun ds Qd h => by first | (obtain ⟨rfl, _⟩ := h; rfl) | (obtain ⟨_, rfl, _⟩ := h; rfl) | (obtain ⟨_, _, rfl, _⟩ := h; rfl) | (obtain ⟨_, _, _, rfl, _⟩ := h; rfl) | (obtain ⟨_, _, _, _, rfl, _⟩ := h; rfl) | (obtain ⟨_, _, _, _, _, rfl, _⟩ := h; rfl) | (obtain ⟨_, _, _, _, _, _, rfl, _⟩ := h; rfl)) fun cdv A outer s H E hr => ⟨_, (pss_one (ps_ret (pe_and (pe_callB (kisi (K := K) rfl) (by rfl) T.n_isinstance (by decide +kernel) (pa_cons (pv 0) (pa_cons (pe_bltn (v := .ty "int") (by rfl) T.n_int (by decide +kernel) rfl) pa_nil))) (pe_one (pe_not (pe_callB (kisi (K := K) rfl) (by rfl) T.n_isinstance (by decide +kernel) (pa_cons (pv 0) (pa_cons (pe_bltn (v := .ty "bool") (by rfl) T.n_bool (by decide +kernel) rfl) pa_nil)))))))), fun ds Qd h => ?_⟩
  obtain ⟨d, rfl, hd, q⟩ := h
  refine ws_ret (ew_andV (ew_isi (by decide) (ew_var rfl ⟨hd.plain, _, rfl, ?_⟩)))
  cases hd with
  | int i => exact iteT (ew_notV (ew_isi (by decide) (ew_var rfl ⟨rfl, _, rfl, q⟩)))
  | bl b => exact iteT (ew_notV (ew_isi (by decide) (ew_var rfl ⟨rfl, _, rfl, q⟩)))
  | _ => exact iteF q
abbrev T_is_name := T1 isNameD
abbrev N_is_name : List Str := ["thing", "sign"]
theorem S_is_name : FnScope N_is_name ["thing"] (defScope s_is_name) := ⟨rfl, rfl, rfl, by decide +kernel, rfl, by decide +kernel, by decide +kernel⟩
theorem ok_is_name (T : TX P K mg) : FnB P w K mg base 1 "is_name" ["thing"] (spP K T_is_name) := by
  obtain ⟨fd, F⟩ := T.F_is_name
  refine fn_P (k := 0) F T.g_is_name (fun _ _ _ _ _ _ us hl => match us, hl with | [_], _ => rfl) S_is_name (fun ds Qd h => by first | (obtain ⟨rfl, _⟩ := h; rfl) | (obtain ⟨_, rfl, _⟩ := h; rfl) | (obtain ⟨_, _, rfl, _⟩ := h; rfl) | (obtain ⟨_, _, _, rfl, _⟩ := h; rfl) | (obtain ⟨_, _, _, _, rfl, _⟩ := h; rfl) | (obtain ⟨_, _, _, _, _, rfl, _⟩ := h; rfl) | (obtain ⟨_, _, _, _, _, _, rfl, _⟩ := h; rfl)) fun cdv A outer s H E hr => ⟨_, (pss_one (ps_ret (pe_and (pe_callB (kisi (K := K) rfl) (by rfl) T.n_isinstance (by decide +kernel) (pa_cons (pv 0) (pa_cons (pe_bltn (v := .ty "str") (by rfl) T.n_str (by decide +kernel) rfl) pa_nil))) (pe_and (pe_chain op_le op_le pe_int (pe_callB (klen (K := K) rfl) (by rfl) T.n_len (by decide +kernel) (pa_cons (pv 0) pa_nil)) (pe_glob (v := .int 8) (by rfl) T.c_LONGEST.choose_spec ⟨_, rfl⟩)) (pe_one (pe_callB (kall rfl (K := K) rfl) (by rfl) T.n_all (by decide +kernel) (pa_cons (pe_lc (own := [("sign", 1)]) rfl S_is_name.nd (pi_str (pv 0)) (blkOk_by (own := [("sign", 1)]) (N := N_is_name) (sc := defScope s_is_name) (by decide +kernel)) (fun _ _ _ _ _ => (pg_name (i := 1) S_is_name.nd rfl (by first | exact .inl rfl | exact .inr rfl))) (fun _ _ _ _ _ => pts_nil) (fun _ _ _ _ _ => (pe_cmpR op_in_sign (pv 1) (pe_glob (v := .str "abcdefghijklmnopqrstuvwxyz0123456789") (by rfl) T.c_SIGNS.choose_spec ⟨_, rfl⟩) (by rfl)))) pa_nil))))))), fun ds Qd h => ?_⟩
  obtain ⟨d, rfl, hd, q⟩ := h
  refine ws_ret (ew_andV (ew_isi (by decide) (ew_var rfl ⟨hd.plain, _, rfl, ?_⟩)))
  cases hd with
  | @str x hx =>
    refine iteT (ew_andV (ew_chain (ew_int (ew_cb (ea_cons (ew_var rfl (ea_nil (opa_len_str (by omega) (op2_cmp ⟨_, rfl, ?_⟩)))))))))
    have q : Qd (.bl (decide ((1 : Int) ≤ x.length) && (decide ((x.length : Int) ≤ 8) && x.cps.toList.all fun c => decide (c ∈ signs.cps.toList)))) := q
    cases e1 : decide ((1 : Int) ≤ x.length) with
    | false =>
      rw [e1] at q
      exact iteF ⟨_, rfl, iteF q⟩
    | true =>
      rw [e1] at q
      refine iteT (ew_int (op2_cmp ⟨_, rfl, ?_⟩))
      cases e2 : decide ((x.length : Int) ≤ 8) with
      | false =>
        rw [e2] at q
        exact iteF q
      | true =>
        rw [e2] at q
        refine iteT (ew_cb (ea_cons (ew_new (en_lcB (f := fun d => match d with | .str z => decide (z.cps.toList.head?.getD 0 ∈ signs.cps.toList) | _ => false) (ei_str (ew_var rfl ⟨x, rfl, rfl, ?_, ?_, ea_nil ?_⟩))))))
        · rw [List.length_map]
          have : x.cps.toList.length = x.length := by simp [Str.length]
          omega
        · intro i d hd
          rw [List.getElem?_map] at hd
          obtain ⟨c, _, rfl⟩ := Option.map_eq_some_iff.mp hd
          refine gv_name (by decide) (ew_op (ew_var rfl (ew_str (op2_sign ⟨rfl, ?_⟩))))
          rfl
        · refine opa_all ?_
          rw [List.all_map, List.all_map]
          exact q
  | _ => exact iteF q
end
end K25

set_option Elab.async false
set_option linter.all false
set_option maxRecDepth 100000
namespace K25
open PySem PySem.Spec PyProof.Rows L2 DL SrtK
section
variable {P : Program} {w : World} {K : PySem.W.Frag} {mg : Str → Option Value} {base : Heap}
def T__law_source : List D → (D → Prop) → Prop := fun ds Q => ∃ (ns : List Int) (j : Nat), ds = [.scr ns, .int (j : Nat)] ∧ ∀ x y : Int, Q (.lst [.int x, .int y, .int 0])
abbrev N__law_source : List Str := ["_law_script", "_law_place", "_law_cell"]
theorem S__law_source : FnScope N__law_source ["_law_script", "_law_place"] (defScope s__law_source) := ⟨rfl, rfl, rfl, by decide +kernel, rfl, by decide +kernel, by decide +kernel⟩
theorem ok__law_source (T : TX P K mg) : FnB P w K mg base 1 "_law_source" ["_law_script", "_law_place"] (spN K T__law_source) := by
  obtain ⟨fd, F⟩ := T.F__law_source
  refine fn_N (k := 0) F T.g__law_source (fun _ _ _ _ _ _ us hl => match us, hl with | [_, _], _ => rfl) S__law_source (fun ds Qd h => by first | (obtain ⟨rfl, _⟩ := h; rfl) | (obtain ⟨_, rfl, _⟩ := h; rfl) | (obtain ⟨_, _, rfl, _⟩ := h; rfl) | (obtain ⟨_, _, _, rfl, _⟩ := h; rfl) | (obtain ⟨_, _, _, _, rfl, _⟩ := h; rfl) | (obtain ⟨_, _, _, _, _, rfl, _⟩ := h; rfl) | (obtain ⟨_, _, _, _, _, _, rfl, _⟩ := h; rfl)) fun cdv A outer s H E hr => ⟨_, (pss_cons (ps_set (i := 2) S__law_source.nd rfl (by first | exact .inl rfl | exact .inr rfl) (pe_ifExp (pt_cmpR op_lt (pv 1) (pe_callB (klen (K := K) rfl) (by rfl) T.n_len (by decide +kernel) (pa_cons (pv 0) pa_nil)) (nomark _)) (pe_ix (kix (K := K) rfl) (pv 0) (pv 1) (fun _ _ => rfl)) (pe_op op_add (pe_op op_mul pe_int (pv 1)) pe_int)))
      (pss_one (ps_ret (pe_lst (pa_cons (pe_ifExp (pt_cmpR op_ge (pv 2) (pe_op op_pow pe_int pe_int) (nomark _)) (pv 2) pe_int) (pa_cons (pe_op op_mod (pe_callTy call_int1 (by rfl) T.n_int (by decide +kernel) (pa_cons (pv 2) pa_nil)) pe_int) (pa_cons pe_int pa_nil))))))), fun ds Qd h => ?_⟩
  obtain ⟨ns, j, rfl, q⟩ := h
  refine ws_seq <| ws_asg <| ew_weak (Q₁ := fun d ρ1 => ∃ c : Int, d = .int c ∧ ρ1 = envP N__law_source [D.scr ns, .int (j : Nat)]) ?_ ?_
  · refine ew_if <| et_test <| ew_op <| ew_var rfl <| ew_cb <| ea_cons <| ew_var rfl <| ea_nil <| opa_len_scr <| op2_cmp ⟨_, rfl, ite_b (fun h1 => ?_) (fun h1 => ?_)⟩
    · have hlt : j < ns.length := by have := of_decide_eq_true h1; omega
      exact ew_op <| ew_var rfl <| ew_var rfl <| op2_ix_scr (List.getElem?_eq_getElem hlt) ⟨_, rfl, rfl⟩
    · exact ew_op <| ew_op <| ew_int <| ew_var rfl <| op2_intC (.inl ⟨by decide, by decide⟩) <| ew_int <| op2_int ⟨_, rfl, rfl⟩
  rintro d ρ1 ⟨c, rfl, rfl⟩
  refine gw_name <| ws_retNew <| en_lst <| ea_cons <| ew_weak (Q₁ := fun d ρ1 => ∃ x : Int, d = .int x ∧ ρ1 = (envP N__law_source [D.scr ns, .int (j : Nat)]).set 2 (.sh (.int c))) ?_ ?_
  · exact ew_if <| et_test <| ew_op <| ew_var rfl <| ew_op <| ew_int <| ew_int <| op2_intC ⟨by decide, by decide, by decide⟩ <| op2_cmp ⟨_, rfl, ite_b (fun _ => ew_var rfl ⟨_, rfl, rfl⟩) (fun _ => ew_int ⟨_, rfl, rfl⟩)⟩
  rintro d ρ1 ⟨x, rfl, rfl⟩
  refine ea_cons <| ew_op <| ew_cb <| ea_cons <| ew_var rfl <| ea_nil <| opa_int <| ew_int <| op2_intC (by show (0 : Int) < 2147483629; decide) <| ea_cons <| ew_int <| ea_nil ⟨?_, q _ _⟩
  show 3 ≤ 100000
  decide
def T__law_draw : List D → (D → Prop) → Prop := fun ds Q => ∃ m : Int, ds = [.int m] ∧ 0 < m ∧ m < 1073741824 ∧ ∀ r : Int, 0 ≤ r → r < m → Q (.int r)
abbrev N__law_draw : List Str := ["_law_draws", "_law_many", "_law_found"]
theorem S__law_draw : FnScope N__law_draw ["_law_draws", "_law_many"] (defScope s__law_draw) := ⟨rfl, rfl, rfl, by decide +kernel, rfl, by decide +kernel, by decide +kernel⟩
theorem ok__law_draw (T : TX P K mg) : FnB P w K mg base 1 "_law_draw" ["_law_draws", "_law_many"] (spW K T__law_draw) := by
  obtain ⟨fd, F⟩ := T.F__law_draw
  refine fn_W (k := 0) F T.g__law_draw (fun _ _ _ _ _ _ us hl => match us, hl with | [_, _], _ => rfl) S__law_draw (by decide) (fun ds Qd h => by first | (obtain ⟨rfl, _⟩ := h; rfl) | (obtain ⟨_, rfl, _⟩ := h; rfl) | (obtain ⟨_, _, rfl, _⟩ := h; rfl) | (obtain ⟨_, _, _, rfl, _⟩ := h; rfl) | (obtain ⟨_, _, _, _, rfl, _⟩ := h; rfl) | (obtain ⟨_, _, _, _, _, rfl, _⟩ := h; rfl) | (obtain ⟨_, _, _, _, _, _, rfl, _⟩ := h; rfl)) fun cdv A outer s H E hr => ⟨_, (pss_cons (ps_if (pt_cmpR op_gt (pe_ix (kix (K := K) rfl) (pv 0) pe_int (fun _ _ => rfl)) pe_int (nomark _)) (pss_cons (ps_set (i := 2) S__law_draw.nd rfl (by first | exact .inl rfl | exact .inr rfl) (pe_op op_mod (pe_callTy call_int1 (by rfl) T.n_int (by decide +kernel) (pa_cons (pe_ix (kix (K := K) rfl) (pv 0) pe_int (fun _ _ => rfl)) pa_nil)) (pv 1)))
      (pss_cons (ps_asg (pe_op op_fdiv (pe_ix (kix (K := K) rfl) (pv 0) pe_int (fun _ _ => rfl)) (pv 1)) (pg_sub (pv 0) pe_int set_list))
      (pss_one (ps_ret (pv 2))))) pss_nil)
      (pss_cons (ps_asg (pe_op op_add (pe_ix (kix (K := K) rfl) (pv 0) pe_int (fun _ _ => rfl)) pe_int) (pg_sub (pv 0) pe_int set_list))
      (pss_cons (ps_asg (pe_op op_mod (pe_callTy call_int1 (by rfl) T.n_int (by decide +kernel) (pa_cons (pe_op op_add (pe_op op_add (pe_op op_mul (pe_ix (kix (K := K) rfl) (pv 0) pe_int (fun _ _ => rfl)) pe_int) (pe_op op_mul (pe_ix (kix (K := K) rfl) (pv 0) pe_int (fun _ _ => rfl)) pe_int)) pe_int) pa_nil)) pe_int) (pg_sub (pv 0) pe_int set_list))
      (pss_one (ps_ret (pe_op op_mod (pe_callTy call_int1 (by rfl) T.n_int (by decide +kernel) (pa_cons (pe_op op_add (pe_op op_fdiv (pe_ix (kix (K := K) rfl) (pv 0) pe_int (fun _ _ => rfl)) pe_int) (pe_ix (kix (K := K) rfl) (pv 0) pe_int (fun _ _ => rfl))) pa_nil)) (pv 1))))))), fun a ds Qd h => ?_⟩
  obtain ⟨m, rfl, h0, h1, q⟩ := h
  have b3 : ∀ {j : Int}, j = 0 ∨ j = 1 ∨ j = 2 → 0 ≤ j ∧ j < 3 := fun h => by omega
  refine ws_seq <| ws_if <| et_test <| ew_op <| ew_drwix rfl (b3 (.inl rfl)) fun x => ew_int <| op2_cmp ⟨_, rfl, ite_b (fun _ => ?_) (fun _ => ws_next ?_)⟩
  · refine ws_seq <| ws_asg <| ew_op <| ew_cb <| ea_cons <| ew_drwix rfl (b3 (.inl rfl)) fun y => ea_nil <| opa_int <| ew_var rfl <| op2_intC h0 <| gw_name ?_
    refine ws_seq <| ws_drwset rfl (b3 (.inl rfl)) <| ew_op <| ew_drwix rfl (b3 (.inl rfl)) fun z => ew_var rfl <| op2_intC ⟨h0, h1⟩ ⟨_, rfl, rfl, ?_⟩
    exact ws_ret <| ew_var rfl ⟨rfl, q _ (Int.emod_nonneg _ (by omega)) (Int.emod_lt_of_pos _ h0)⟩
  · refine ws_seq <| ws_drwset rfl (b3 (.inr (.inr rfl))) <| ew_op <| ew_drwix rfl (b3 (.inr (.inr rfl))) fun z => ew_int <| op2_int ⟨_, rfl, rfl, ?_⟩
    refine ws_seq <| ws_drwset rfl (b3 (.inr (.inl rfl))) <| ew_op <| ew_cb <| ea_cons <| ew_op <| ew_op <| ew_op <| ew_drwix rfl (b3 (.inr (.inl rfl))) fun y => ew_int <| op2_intC (.inr ⟨by decide, by decide⟩) <| ew_op <| ew_drwix rfl (b3 (.inr (.inr rfl))) fun z => ew_int <| op2_intC (.inr ⟨by decide, by decide⟩) <| op2_int <| ew_int <| op2_int <| ea_nil <| opa_int <| ew_int <| op2_intC (by show (0 : Int) < 2147483629; decide) ⟨_, rfl, rfl, ?_⟩
    exact ws_ret <| ew_op <| ew_cb <| ea_cons <| ew_op <| ew_op <| ew_drwix rfl (b3 (.inr (.inl rfl))) fun y => ew_int <| op2_intC ⟨by decide, by decide⟩ <| ew_drwix rfl (b3 (.inr (.inl rfl))) fun z => op2_int <| ea_nil <| opa_int <| ew_var rfl <| op2_intC h0 ⟨rfl, q _ (Int.emod_nonneg _ (by omega)) (Int.emod_lt_of_pos _ h0)⟩
def T__law_pick : List D → (D → Prop) → Prop := fun ds Q => ∃ x xs, ds = [x] ∧ x.seq = some xs ∧ 0 < xs.length ∧ xs.length ≤ 100000 ∧ ∀ d ∈ xs, Q d
abbrev N__law_pick : List Str := ["_law_draws", "_law_xs"]
theorem S__law_pick : FnScope N__law_pick ["_law_draws", "_law_xs"] (defScope s__law_pick) := ⟨rfl, rfl, rfl, by decide +kernel, rfl, by decide +kernel, by decide +kernel⟩
theorem ok__law_pick (T : TX P K mg) : FnB P w K mg base 2 "_law_pick" ["_law_draws", "_law_xs"] (spW K T__law_pick) := by
  obtain ⟨fd, F⟩ := T.F__law_pick
  have G__law_draw := ok__law_draw (P := P) (w := w) (base := base) T
  refine fn_W (k := 1) F T.g__law_pick (fun _ _ _ _ _ _ us hl => match us, hl with | [_, _], _ => rfl) S__law_pick (by decide) (fun ds Qd h => by first | (obtain ⟨rfl, _⟩ := h; rfl) | (obtain ⟨_, rfl, _⟩ := h; rfl) | (obtain ⟨_, _, rfl, _⟩ := h; rfl) | (obtain ⟨_, _, _, rfl, _⟩ := h; rfl) | (obtain ⟨_, _, _, _, rfl, _⟩ := h; rfl) | (obtain ⟨_, _, _, _, _, rfl, _⟩ := h; rfl) | (obtain ⟨_, _, _, _, _, _, rfl, _⟩ := h; rfl)) fun cdv A outer s H E hr => ⟨_, (pss_one (ps_ret (pe_ix (kix (K := K) rfl) (pv 1) (pe_callF G__law_draw (hr.mono (by first | decide | omega)) (pa_cons (pv 0) (pa_cons (pe_callB (klen (K := K) rfl) (by rfl) T.n_len (by decide +kernel) (pa_cons (pv 1) pa_nil)) pa_nil))) (fun _ _ => rfl)))), fun a ds Qd h => ?_⟩
  obtain ⟨x, xs, rfl, hx, h0, h1, q⟩ := h
  refine ws_ret <| ew_op <| ew_var rfl <| ew_callW rfl <| ea_cons <| ew_cb <| ea_cons <| ew_var rfl <| ea_nil <| opa_len hx <| ea_nil ⟨rfl, _, rfl, by omega, by omega, fun r hr0 hr1 => ?_⟩
  have hlt : r.toNat < xs.length := by omega
  have e : r = ((r.toNat : Nat) : Int) := by omega
  rw [e]
  exact op2_ix hx (atI_nat (List.getElem?_eq_getElem hlt)) ⟨rfl, q _ (List.getElem_mem hlt)⟩
/-! ### the same, found and due -/
inductive Pl : Nat → D → Prop
  | bl {n : Nat} (b : Bool) : Pl n (.bl b)
  | int {n : Nat} (i : Int) : Pl n (.int i)
  | str {n : Nat} (x : Str) : Pl n (.str x)
  | lst {n : Nat} {xs : List D} : xs.length ≤ 1000 → (∀ x ∈ xs, Pl n x) → Pl (n + 1) (.lst xs)
  | tup {n : Nat} {xs : List D} : xs.length ≤ 1000 → (∀ x ∈ xs, Pl n x) → Pl (n + 1) (.tup xs)
def T_same (n : Nat) : List D → (D → Prop) → Prop := fun ds Q => ∃ x, ds = [x, x] ∧ Pl n x ∧ Q (.bl true)
abbrev N__law_same : List Str := ["_law_found", "_law_due", "_law_left", "_law_right"]
theorem S__law_same : FnScope N__law_same ["_law_found", "_law_due"] (defScope s__law_same) := ⟨rfl, rfl, rfl, by decide +kernel, rfl, by decide +kernel, by decide +kernel⟩
theorem all_bl {n : Nat} : ((List.replicate n true).map D.bl) = List.replicate n (D.bl true) := by simp
theorem same_step (T : TX P K mg) (n : Nat) {R : List D → (D → Prop) → Prop} (hR : ∀ m, n = m + 1 → R = T_same m) (G__law_same : FnB P w K mg base (n + 1) "_law_same" ["_law_found", "_law_due"] (spP K R)) : FnB P w K mg base (n + 2) "_law_same" ["_law_found", "_law_due"] (spP K (T_same n)) := by
  obtain ⟨fd, F⟩ := T.F__law_same
  refine fn_P (k := n + 1) F T.g__law_same (fun _ _ _ _ _ _ us hl => match us, hl with | [_, _], _ => rfl) S__law_same (fun ds Qd h => by obtain ⟨_, rfl, _⟩ := h; rfl) fun cdv A outer s H E hr => ⟨_, (pss_cons (ps_if (pt_val (pe_callB (kisiT (K := K) rfl) (by rfl) T.n_isinstance (by decide +kernel) (pa_cons (pv 1) (pa_cons (pe_tup (pa_cons (pe_bltn (v := .ty "list") (by rfl) T.n_list (by decide +kernel) rfl) (pa_cons (pe_bltn (v := .ty "tuple") (by rfl) T.n_tuple (by decide +kernel) rfl) pa_nil))) pa_nil)))) (pss_cons (ps_if (PW.pt (pw_or (pt_cmpR op_ne (pe_callB (kisi (K := K) rfl) (by rfl) T.n_isinstance (by decide +kernel) (pa_cons (pv 0) (pa_cons (pe_bltn (v := .ty "list") (by rfl) T.n_list (by decide +kernel) rfl) pa_nil))) (pe_callB (kisi (K := K) rfl) (by rfl) T.n_isinstance (by decide +kernel) (pa_cons (pv 1) (pa_cons (pe_bltn (v := .ty "list") (by rfl) T.n_list (by decide +kernel) rfl) pa_nil))) (nomark _)) (pw_or1 (pt_cmpR op_ne (pe_callB (kisi (K := K) rfl) (by rfl) T.n_isinstance (by decide +kernel) (pa_cons (pv 0) (pa_cons (pe_bltn (v := .ty "tuple") (by rfl) T.n_tuple (by decide +kernel) rfl) pa_nil))) (pe_callB (kisi (K := K) rfl) (by rfl) T.n_isinstance (by decide +kernel) (pa_cons (pv 1) (pa_cons (pe_bltn (v := .ty "tuple") (by rfl) T.n_tuple (by decide +kernel) rfl) pa_nil))) (nomark _))))) (pss_one (ps_ret pe_bl)) pss_nil)
      (pss_one (ps_ret (pe_and (pe_cmpR op_eq (pe_callB (klen (K := K) rfl) (by rfl) T.n_len (by decide +kernel) (pa_cons (pv 0) pa_nil)) (pe_callB (klen (K := K) rfl) (by rfl) T.n_len (by decide +kernel) (pa_cons (pv 1) pa_nil)) (nomark _)) (pe_one (pe_callB (kall rfl (K := K) rfl) (by rfl) T.n_all (by decide +kernel) (pa_cons (pe_lc (own := [("_law_left", 2), ("_law_right", 3)]) rfl S__law_same.nd (kzipA (K := K) rfl (by rfl) T.n_zip (pa_cons (pv 0) (pa_cons (pv 1) pa_nil))) (blkOk_by (own := [("_law_left", 2), ("_law_right", 3)]) (N := N__law_same) (sc := defScope s__law_same) (by decide +kernel)) (fun _ _ _ _ _ => (kgt (K := K) (n := 2) rfl rfl (pgs_cons (pg_name (i := 2) S__law_same.nd rfl (by first | exact .inl rfl | exact .inr rfl)) (pgs_cons (pg_name (i := 3) S__law_same.nd rfl (by first | exact .inl rfl | exact .inr rfl)) pgs_nil)))) (fun _ _ _ _ _ => pts_nil) (fun _ _ _ _ _ => (pe_callF G__law_same (hr.mono (by first | decide | omega)) (pa_cons (pv 2) (pa_cons (pv 3) pa_nil))))) pa_nil))))))) pss_nil)
      (pss_cons (ps_if (pt_val (pe_callB (kisiT (K := K) rfl) (by rfl) T.n_isinstance (by decide +kernel) (pa_cons (pv 1) (pa_cons (pe_tup (pa_cons (pe_bltn (v := .ty "bool") (by rfl) T.n_bool (by decide +kernel) rfl) (pa_cons (pe_bltn (v := .ty "int") (by rfl) T.n_int (by decide +kernel) rfl) pa_nil))) pa_nil)))) (pss_one (ps_ret (pe_and (pe_callB (kisi (K := K) rfl) (by rfl) T.n_isinstance (by decide +kernel) (pa_cons (pv 0) (pa_cons (pe_bltn (v := .ty "int") (by rfl) T.n_int (by decide +kernel) rfl) pa_nil))) (pe_and (pe_cmpR op_eq (pe_callB (kisi (K := K) rfl) (by rfl) T.n_isinstance (by decide +kernel) (pa_cons (pv 0) (pa_cons (pe_bltn (v := .ty "bool") (by rfl) T.n_bool (by decide +kernel) rfl) pa_nil))) (pe_callB (kisi (K := K) rfl) (by rfl) T.n_isinstance (by decide +kernel) (pa_cons (pv 1) (pa_cons (pe_bltn (v := .ty "bool") (by rfl) T.n_bool (by decide +kernel) rfl) pa_nil))) (nomark _)) (pe_one (pe_cmpR op_eq (pv 0) (pv 1) (nomark _))))))) pss_nil)
      (pss_one (ps_ret (pe_and (pe_not (pe_callB (kisiT (K := K) rfl) (by rfl) T.n_isinstance (by decide +kernel) (pa_cons (pv 0) (pa_cons (pe_tup (pa_cons (pe_bltn (v := .ty "bool") (by rfl) T.n_bool (by decide +kernel) rfl) (pa_cons (pe_bltn (v := .ty "int") (by rfl) T.n_int (by decide +kernel) rfl) (pa_cons (pe_bltn (v := .ty "list") (by rfl) T.n_list (by decide +kernel) rfl) (pa_cons (pe_bltn (v := .ty "tuple") (by rfl) T.n_tuple (by decide +kernel) rfl) pa_nil))))) pa_nil)))) (pe_one (pe_cmpR op_eq (pv 0) (pv 1) (nomark _)))))))), fun ds Qd h => ?_⟩
  obtain ⟨d, rfl, hd, q⟩ := h
  have hcase : (∃ xs m, n = m + 1 ∧ xs.length ≤ 1000 ∧ (∀ x ∈ xs, Pl m x) ∧ (d = .lst xs ∨ d = .tup xs)) ∨ (∃ b, d = .bl b) ∨ (∃ b, d = .int b) ∨ ∃ b, d = .str b := by
    cases hd with
    | lst h1 h2 => exact .inl ⟨_, _, rfl, h1, h2, .inl rfl⟩
    | tup h1 h2 => exact .inl ⟨_, _, rfl, h1, h2, .inr rfl⟩
    | bl b => exact .inr (.inl ⟨b, rfl⟩)
    | int b => exact .inr (.inr (.inl ⟨b, rfl⟩))
    | str b => exact .inr (.inr (.inr ⟨b, rfl⟩))
  rcases hcase with ⟨xs, m, hm, hl, hx, hds⟩ | ⟨b, rfl⟩ | ⟨b, rfl⟩ | ⟨b, rfl⟩
  · -- lists and tuples
    have hp : d.plain = true := by rcases hds with rfl | rfl <;> rfl
    have hs : d.seq = some xs := by rcases hds with rfl | rfl <;> rfl
    have h1 : (tyIs d.ty "list" || tyIs d.ty "tuple") = true := by rcases hds with rfl | rfl <;> rfl
    refine ws_seq <| ws_if <| et_B <| ew_isi2 (by decide) (by decide) <| ew_var rfl ⟨hp, _, rfl, ?_⟩
    rw [h1]
    refine iteT <| ws_seq <| ws_ifn (C := True) (et_or <| et_test <| ew_op <| ew_isi (by decide) <| ew_var rfl ⟨hp, ew_isi (by decide) <| ew_var rfl ⟨hp, op2_ne_bl ⟨_, rfl, ?_⟩⟩⟩) fun _ => ?_
    · rw [decide_eq_true rfl]
      refine iteF <| et_test <| ew_op <| ew_isi (by decide) <| ew_var rfl ⟨hp, ew_isi (by decide) <| ew_var rfl ⟨hp, op2_ne_bl ⟨_, rfl, ?_⟩⟩⟩
      rw [decide_eq_true rfl]
      exact iteF ⟨rfl, trivial⟩
    · refine ws_ret <| ew_andV <| ew_op <| ew_cb <| ea_cons <| ew_var rfl <| ea_nil <| opa_len hs <| ew_cb <| ea_cons <| ew_var rfl <| ea_nil <| opa_len hs <| op2_eq_int ⟨_, rfl, ?_⟩
      rw [decide_eq_true rfl]
      refine iteT <| ew_cb <| ea_cons <| ew_new <| en_lcB (f := fun _ => true) <| ei_zip <| ea_cons <| ew_var rfl <| ea_cons <| ew_var rfl <| ea_nil ⟨xs, xs, ?_, rfl, ?_, fun i y hy => ?_, ea_nil <| opa_all ?_⟩
      · rcases hds with rfl | rfl
        · exact .inl rfl
        · exact .inr rfl
      · rw [zipD_len]; omega
      · obtain ⟨x, x', e1, e2, rfl⟩ := zipD_at hy
        rw [e1] at e2; cases e2
        have px := hx x (List.mem_of_getElem? e1)
        refine gv_tup rfl <| gvs_cons <| gv_name (by decide) <| gvs_cons <| gv_name (by decide) <| gvs_nil <| ew_callP <| ea_cons <| ew_var rfl <| ea_cons <| ew_var rfl <| ea_nil ?_
        rw [hR m hm]
        exact ⟨x, rfl, px, rfl, rfl⟩
      · rw [List.all_map, show (List.all (zipD xs xs) (id ∘ fun _ => true)) = true by rw [List.all_eq_true]; intro _ _; rfl]
        exact q
  · -- truth values
    refine ws_seq <| ws_if <| et_B <| ew_isi2 (by decide) (by decide) <| ew_var rfl ⟨rfl, _, rfl, iteF <| ws_next ?_⟩
    refine ws_seq <| ws_if <| et_B <| ew_isi2 (by decide) (by decide) <| ew_var rfl ⟨rfl, _, rfl, iteT ?_⟩
    refine ws_ret <| ew_andV <| ew_isi (by decide) <| ew_var rfl ⟨rfl, _, rfl, iteT ?_⟩
    refine ew_andV <| ew_op <| ew_isi (by decide) <| ew_var rfl ⟨rfl, ew_isi (by decide) <| ew_var rfl ⟨rfl, op2_eq_bl ⟨_, rfl, iteT ?_⟩⟩⟩
    exact ew_op <| ew_var rfl <| ew_var rfl <| op2_eq_bl (by rw [decide_eq_true rfl]; exact q)
  · -- ints
    refine ws_seq <| ws_if <| et_B <| ew_isi2 (by decide) (by decide) <| ew_var rfl ⟨rfl, _, rfl, iteF <| ws_next ?_⟩
    refine ws_seq <| ws_if <| et_B <| ew_isi2 (by decide) (by decide) <| ew_var rfl ⟨rfl, _, rfl, iteT ?_⟩
    refine ws_ret <| ew_andV <| ew_isi (by decide) <| ew_var rfl ⟨rfl, _, rfl, iteT ?_⟩
    refine ew_andV <| ew_op <| ew_isi (by decide) <| ew_var rfl ⟨rfl, ew_isi (by decide) <| ew_var rfl ⟨rfl, op2_eq_bl ⟨_, rfl, iteT ?_⟩⟩⟩
    exact ew_op <| ew_var rfl <| ew_var rfl <| op2_eq_int (by rw [decide_eq_true rfl]; exact q)
  · -- texts
    refine ws_seq <| ws_if <| et_B <| ew_isi2 (by decide) (by decide) <| ew_var rfl ⟨rfl, _, rfl, iteF <| ws_next ?_⟩
    refine ws_seq <| ws_if <| et_B <| ew_isi2 (by decide) (by decide) <| ew_var rfl ⟨rfl, _, rfl, iteF <| ws_next ?_⟩
    refine ws_ret <| ew_andV <| ew_notV <| ew_isi4 (by decide) (by decide) (by decide) (by decide) <| ew_var rfl ⟨rfl, _, rfl, _, rfl, iteT ?_⟩
    exact ew_op <| ew_var rfl <| ew_var rfl <| op2_eq_str (by rw [decide_eq_true rfl]; exact q)
theorem same_all (T : TX P K mg) : ∀ n : Nat, FnB P w K mg base (n + 2) "_law_same" ["_law_found", "_law_due"] (spP K (T_same n))
  | 0 => by
    obtain ⟨fd, F⟩ := T.F__law_same
    exact same_step T 0 (R := fun _ _ => False) (fun m h => (nomatch h)) (fn_P (k := 0) F T.g__law_same (fun _ _ _ _ _ _ us hl => match us, hl with | [_, _], _ => rfl) S__law_same (fun ds Qd h => h.elim) fun cdv A outer s H E hr => ⟨fun _ _ _ => False, ⟨fun _ _ _ _ _ _ h => h.elim⟩, fun ds Qd h => h.elim⟩)
  | n + 1 => same_step T (n + 1) (R := T_same n) (fun m h => by cases h; rfl) (same_all T n)
theorem ok__law_same (T : TX P K mg) : FnB P w K mg base 6 "_law_same" ["_law_found", "_law_due"] (spP K (T_same 4)) := same_all T 4
end
end K25

set_option Elab.async false
set_option linter.all false
set_option maxRecDepth 100000
namespace K25
open PySem PySem.Spec PyProof.Rows L2 DL SrtK
/-! ### rows -/
def isAccS (x : Str) : Bool := isNameS x || decide (x ∈ (["the-till", "the-pool"] : List Str))
def isAccD : D → Bool
  | .str x => isAccS x
  | _ => false
def isRowD (d : D) : Bool := match d.seq with
  | some [a, b, c] => isAccD a && (isNameD b && isWholeD c)
  | _ => false
abbrev Rw := Str × Str × Int
def rowOf (d : D) : Rw := match d.seq with
  | some [.str a, .str b, .int n] => (a, b, n)
  | _ => ("", "", 0)
theorem row_shape {d : D} (h : isRowD d = true) : d.seq = some [.str (rowOf d).1, .str (rowOf d).2.1, .int (rowOf d).2.2] ∧ isAccS (rowOf d).1 = true ∧ isNameS (rowOf d).2.1 = true := by
  unfold isRowD at h
  split at h
  · rename_i a b c e
    simp only [Bool.and_eq_true] at h
    obtain ⟨h1, h2, h3⟩ := h
    cases a with
    | str a => cases b with
      | str b => cases c with
        | int c =>
          have er : rowOf d = (a, b, c) := by unfold rowOf; rw [e]
          rw [er]
          exact ⟨e, h1, h2⟩
        | _ => cases h3
      | _ => cases h2
    | _ => cases h1
  · cases h
/-- rows told by xs -/
def RowsAre (xs : List D) (rs : List Rw) : Prop := xs.map D.seq = rs.map fun r => some [D.str r.1, .str r.2.1, .int r.2.2]
theorem rowsAre_of {xs : List D} (h : ∀ x ∈ xs, isRowD x = true) : RowsAre xs (xs.map rowOf) := by
  unfold RowsAre
  rw [List.map_map]
  exact List.map_congr_left fun x hx => (row_shape (h x hx)).1
theorem RowsAre.at {xs : List D} {rs : List Rw} (h : RowsAre xs rs) {i : Nat} {d : D} (hd : xs[i]? = some d) : ∃ r, rs[i]? = some r ∧ d.seq = some [D.str r.1, .str r.2.1, .int r.2.2] := by
  have e : (xs.map D.seq)[i]? = some d.seq := by rw [List.getElem?_map, hd]; rfl
  rw [h, List.getElem?_map] at e
  obtain ⟨r, h1, h2⟩ := Option.map_eq_some_iff.mp e
  exact ⟨r, h1, h2.symm⟩
theorem RowsAre.len {xs : List D} {rs : List Rw} (h : RowsAre xs rs) : xs.length = rs.length := by
  have := congrArg List.length h
  simpa using this
def keyR (r : Rw) : List Key := [.inr r.1, .inr r.2.1]
def keyT (r : Rw) : Key := .inr r.2.1
def amt (r : Rw) : Int := r.2.2
def sumsR (rs : List Rw) : List (List Key × Int) := sumBy keyR amt rs
def sumsT (rs : List Rw) : List (Key × Int) := sumBy keyT amt rs
/-- keys that count, ascending -/
def goodK (rs : List Rw) : List (List Key) := (srtK ((sumsR rs).map (·.1))).filter fun k => !decide (iget (sumsR rs) k = 0)
def addedD (rs : List Rw) : D := .lst ((goodK rs).map fun k => .tup (k.map kD ++ [.int (iget (sumsR rs) k)]))
def evenB (rs : List Rw) : Bool := (sumsT rs).all fun p => decide (p.2 = 0)
theorem keyR_shp (r : Rw) : shp (keyR r) = [false, false] := rfl
theorem sumsR_shp (rs : List Rw) : ∀ k ∈ (sumsR rs).map (·.1), shp k = false :: [false] := fun k hk => by
  obtain ⟨r, _, rfl⟩ := sumBy_keys keyR amt rs k hk
  rfl
section
variable {P : Program} {w : World} {K : PySem.W.Frag} {mg : Str → Option Value} {base : Heap}
abbrev T_is_account := T1 isAccD
abbrev N_is_account : List Str := ["thing"]
theorem S_is_account : FnScope N_is_account ["thing"] (defScope s_is_account) := ⟨rfl, rfl, rfl, by decide +kernel, rfl, by decide +kernel, by decide +kernel⟩
theorem ok_is_account (T : TX P K mg) : FnB P w K mg base 2 "is_account" ["thing"] (spP K T_is_account) := by
  obtain ⟨fd, F⟩ := T.F_is_account
  have G_is_name := ok_is_name (P := P) (w := w) (base := base) T
  refine fn_P (k := 1) F T.g_is_account (fun _ _ _ _ _ _ us hl => match us, hl with | [_], _ => rfl) S_is_account (fun ds Qd h => by first | (obtain ⟨rfl, _⟩ := h; rfl) | (obtain ⟨_, rfl, _⟩ := h; rfl) | (obtain ⟨_, _, rfl, _⟩ := h; rfl) | (obtain ⟨_, _, _, rfl, _⟩ := h; rfl) | (obtain ⟨_, _, _, _, rfl, _⟩ := h; rfl) | (obtain ⟨_, _, _, _, _, rfl, _⟩ := h; rfl) | (obtain ⟨_, _, _, _, _, _, rfl, _⟩ := h; rfl)) fun cdv A outer s H E hr => ⟨_, (pss_one (ps_ret (pe_or (pe_callF G_is_name (hr.mono (by first | decide | omega)) (pa_cons (pv 0) pa_nil)) (pe_one (pe_and (pe_callB (kisi (K := K) rfl) (by rfl) T.n_isinstance (by decide +kernel) (pa_cons (pv 0) (pa_cons (pe_bltn (v := .ty "str") (by rfl) T.n_str (by decide +kernel) rfl) pa_nil))) (pe_one (pe_cmpR (kin (K := K) rfl) (pv 0) (pe_tup (pa_cons (pe_glob (v := .str "the-till") (by rfl) T.c_TILL.choose_spec ⟨_, rfl⟩) (pa_cons (pe_glob (v := .str "the-pool") (by rfl) T.c_POOL.choose_spec ⟨_, rfl⟩) pa_nil))) (by rfl)))))))), fun ds Qd h => ?_⟩
  obtain ⟨d, rfl, hd, q⟩ := h
  refine ws_ret <| ew_orV <| ew_callP <| ea_cons <| ew_var rfl <| ea_nil ⟨d, rfl, hd, _, rfl, ?_⟩
  cases hd with
  | @str x hx =>
    have q : Qd (.bl (isNameS x || decide (x ∈ (["the-till", "the-pool"] : List Str)))) := q
    show if isNameS x = true then _ else _
    cases e : isNameS x with
    | true => rw [e] at q; exact iteT q
    | false =>
      rw [e] at q
      refine iteF <| ew_andV <| ew_isi (by decide) <| ew_var rfl ⟨rfl, _, rfl, iteT ?_⟩
      exact ew_op <| ew_var rfl <| ew_tup <| ea_cons <| ew_str <| ea_cons <| ew_str <| ea_nil ⟨by show 2 ≤ 100000; decide, op2_in (neg := false) (ys := ["the-till", "the-pool"]) rfl q⟩
  | _ => exact iteF <| ew_andV <| ew_isi (by decide) <| ew_var rfl ⟨rfl, _, rfl, iteF q⟩
abbrev T_is_row := T1 isRowD
abbrev N_is_row : List Str := ["thing"]
theorem S_is_row : FnScope N_is_row ["thing"] (defScope s_is_row) := ⟨rfl, rfl, rfl, by decide +kernel, rfl, by decide +kernel, by decide +kernel⟩
theorem ok_is_row (T : TX P K mg) : FnB P w K mg base 3 "is_row" ["thing"] (spP K T_is_row) := by
  obtain ⟨fd, F⟩ := T.F_is_row
  have G_is_list := ok_is_list (P := P) (w := w) (base := base) T
  have G_is_account := ok_is_account (P := P) (w := w) (base := base) T
  have G_is_name := ok_is_name (P := P) (w := w) (base := base) T
  have G_is_whole := ok_is_whole (P := P) (w := w) (base := base) T
  refine fn_P (k := 2) F T.g_is_row (fun _ _ _ _ _ _ us hl => match us, hl with | [_], _ => rfl) S_is_row (fun ds Qd h => by first | (obtain ⟨rfl, _⟩ := h; rfl) | (obtain ⟨_, rfl, _⟩ := h; rfl) | (obtain ⟨_, _, rfl, _⟩ := h; rfl) | (obtain ⟨_, _, _, rfl, _⟩ := h; rfl) | (obtain ⟨_, _, _, _, rfl, _⟩ := h; rfl) | (obtain ⟨_, _, _, _, _, rfl, _⟩ := h; rfl) | (obtain ⟨_, _, _, _, _, _, rfl, _⟩ := h; rfl)) fun cdv A outer s H E hr => ⟨_, (pss_one (ps_ret (pe_and (pe_callF G_is_list (hr.mono (by first | decide | omega)) (pa_cons (pv 0) pa_nil)) (pe_and (pe_cmpR op_eq (pe_callB (klen (K := K) rfl) (by rfl) T.n_len (by decide +kernel) (pa_cons (pv 0) pa_nil)) pe_int (nomark _)) (pe_and (pe_callF G_is_account (hr.mono (by first | decide | omega)) (pa_cons (pe_ix (kix (K := K) rfl) (pv 0) pe_int (fun _ _ => rfl)) pa_nil)) (pe_and (pe_callF G_is_name (hr.mono (by first | decide | omega)) (pa_cons (pe_ix (kix (K := K) rfl) (pv 0) pe_int (fun _ _ => rfl)) pa_nil)) (pe_one (pe_callF G_is_whole (hr.mono (by first | decide | omega)) (pa_cons (pe_ix (kix (K := K) rfl) (pv 0) pe_int (fun _ _ => rfl)) pa_nil))))))))), fun ds Qd h => ?_⟩
  obtain ⟨d, rfl, hd, q⟩ := h
  refine ws_ret <| ew_andV <| ew_callP <| ea_cons <| ew_var rfl <| ea_nil ⟨d, rfl, hd, _, rfl, ?_⟩
  unfold isRowD at q
  cases e : d.seq with
  | none =>
    rw [seq_isList e hd]
    rw [e] at q
    exact iteF q
  | some xs =>
    rw [seq_isList' e]
    rw [e] at q
    refine iteT <| ew_andV <| ew_op <| ew_cb <| ea_cons <| ew_var rfl <| ea_nil <| opa_len e <| ew_int <| op2_eq_int ⟨_, rfl, ?_⟩
    by_cases h3 : xs.length = 3
    · obtain ⟨a, b, c, rfl⟩ : ∃ a b c, xs = [a, b, c] := by
        match xs, h3 with
        | [a, b, c], _ => exact ⟨a, b, c, rfl⟩
      have q : Qd (.bl (isAccD a && (isNameD b && isWholeD c))) := q
      have oa : Ok a := hd.mem e (i := 0) rfl
      have ob : Ok b := hd.mem e (i := 1) rfl
      have oc : Ok c := hd.mem e (i := 2) rfl
      rw [show decide ((([a, b, c] : List D).length : Int) = 3) = true from rfl]
      refine iteT <| ew_andV <| ew_callP <| ea_cons <| ew_op <| ew_var rfl <| ew_int <| op2_ix e rfl <| ea_nil ⟨a, rfl, oa, _, rfl, ?_⟩
      cases ea : isAccD a with
      | false => rw [ea] at q; exact iteF q
      | true =>
        rw [ea] at q
        refine iteT <| ew_andV <| ew_callP <| ea_cons <| ew_op <| ew_var rfl <| ew_int <| op2_ix e rfl <| ea_nil ⟨b, rfl, ob, _, rfl, ?_⟩
        cases eb : isNameD b with
        | false => rw [eb] at q; exact iteF q
        | true =>
          rw [eb] at q
          exact iteT <| ew_callP <| ea_cons <| ew_op <| ew_var rfl <| ew_int <| op2_ix e rfl <| ea_nil ⟨c, rfl, oc, q⟩
    · have hne : decide ((xs.length : Int) = 3) = false := decide_eq_false (by omega)
      rw [hne]
      refine iteF ?_
      split at q
      · rename_i a b c e2
        cases e2
        exact absurd rfl h3
      · exact q
def firstBad (d : D) : Option Nat := match d.seq with
  | none => some 0
  | some xs => xs.findIdx? fun x => !isRowD x
def T_check_rows : List D → (D → Prop) → (Str → Str → D → Prop) → Prop := fun ds Q X => ∃ d, ds = [d] ∧ Ok d ∧ match firstBad d with
  | none => Q .non
  | some i => X "BadRow" "index" (.int (i : Nat))
abbrev N_check_rows : List Str := ["rows", "index", "thing"]
theorem S_check_rows : FnScope N_check_rows ["rows"] (defScope s_check_rows) := ⟨rfl, rfl, rfl, by decide +kernel, rfl, by decide +kernel, by decide +kernel⟩
theorem ok_check_rows (T : TX P K mg) : FnX P w K mg base 4 "check_rows" ["rows"] (spX K T_check_rows) := by
  obtain ⟨fd, F⟩ := T.F_check_rows
  have G_is_list := ok_is_list (P := P) (w := w) (base := base) T
  have G_is_row := ok_is_row (P := P) (w := w) (base := base) T
  refine fn_X (k := 3) F T.g_check_rows (fun _ _ _ _ _ _ us hl => match us, hl with | [_], _ => rfl) S_check_rows (fun ds Qd X h => by first | (obtain ⟨rfl, _⟩ := h; rfl) | (obtain ⟨_, rfl, _⟩ := h; rfl) | (obtain ⟨_, _, rfl, _⟩ := h; rfl) | (obtain ⟨_, _, _, rfl, _⟩ := h; rfl) | (obtain ⟨_, _, _, _, rfl, _⟩ := h; rfl) | (obtain ⟨_, _, _, _, _, rfl, _⟩ := h; rfl) | (obtain ⟨_, _, _, _, _, _, rfl, _⟩ := h; rfl)) fun cdv A outer s H W hr tk po => ⟨_, (pss_cons (ps_if (pt_not (pt_val (pe_callF G_is_list (hr.mono (by first | decide | omega)) (pa_cons (pv 0) pa_nil)))) (pss_one (ps_raise rfl tk (pmk_sup (k := 0) T.S_BadRow (hr.mono (by first | decide | omega)) (by rfl) T.g_BadRow T.n_super pe_int))) pss_nil)
      (pss_one (ps_for po rfl (kenum (K := K) rfl (by rfl) T.n_enumerate (pa_cons (pv 0) pa_nil)) (kgt (K := K) (n := 2) rfl rfl (pgs_cons (pg_name (i := 1) S_check_rows.nd rfl (by first | exact .inl rfl | exact .inr rfl)) (pgs_cons (pg_name (i := 2) S_check_rows.nd rfl (by first | exact .inl rfl | exact .inr rfl)) pgs_nil)))
      (pss_one (ps_if (pt_not (pt_val (pe_callF G_is_row (hr.mono (by first | decide | omega)) (pa_cons (pv 2) pa_nil)))) (pss_one (ps_raise rfl tk (pmk_sup (k := 0) T.S_BadRow (hr.mono (by first | decide | omega)) (by rfl) T.g_BadRow T.n_super (pv 1)))) pss_nil))))), fun ds Qd X h => ?_⟩
  obtain ⟨d, rfl, hd, q⟩ := h
  unfold firstBad at q
  cases e : d.seq with
  | none =>
    rw [e] at q
    refine ws_seq <| ws_if <| et_not <| et_B <| ew_callP <| ea_cons <| ew_var rfl <| ea_nil ⟨d, rfl, hd, _, rfl, ?_⟩
    rw [seq_isList e hd]
    exact iteT <| ws_raise rfl <| ew_int q
  | some xs =>
    rw [e] at q
    have q : match xs.findIdx? (fun x => !isRowD x) with
      | none => Qd .non
      | some i => X "BadRow" "index" (.int (i : Nat)) := q
    refine ws_seq <| ws_ifn (C := True) (et_not <| et_B <| ew_callP <| ea_cons <| ew_var rfl <| ea_nil ⟨d, rfl, hd, _, rfl, ?_⟩) fun _ => ?_
    · rw [seq_isList' e]
      exact iteF ⟨rfl, trivial⟩
    · refine ws_for <| ei_enum d e <| ea_cons <| ew_var rfl <| ea_nil ⟨rfl, fun i ρ => (∃ s1 s2 : Sl, ρ = [.sh d, s1, s2]) ∧ ∀ j x, j < i → xs[j]? = some x → isRowD x = true, ⟨⟨_, _, rfl⟩, fun j x h => absurd h (Nat.not_lt_zero _)⟩, ?_, ?_⟩
      · rintro i y ρ' hy ⟨⟨s1, s2, rfl⟩, hb⟩
        have hlt := (List.getElem?_eq_some_iff.mp hy).1
        rw [enumD_len] at hlt
        have hx := List.getElem?_eq_getElem hlt
        rw [enumD_at hx] at hy
        cases hy
        have ox := hd.mem e hx
        refine gw_tup rfl <| gws_cons <| gw_name <| gws_cons <| gw_name <| gws_nil <| ws_ifn (C := isRowD xs[i] = true) (et_not <| et_B <| ew_callP <| ea_cons <| ew_var rfl <| ea_nil ⟨_, rfl, ox, _, rfl, ?_⟩) fun hc => ⟨⟨_, _, rfl⟩, fun j x hj hjx => ?_⟩
        · cases c : isRowD xs[i] with
          | true => exact iteF ⟨rfl, rfl⟩
          | false =>
            refine iteT <| ws_raise rfl <| ew_var rfl ?_
            have : xs.findIdx? (fun x => !isRowD x) = some i := by
              rw [List.findIdx?_eq_some_iff_getElem]
              refine ⟨hlt, by rw [c]; rfl, fun j hj => ?_⟩
              have := hb j xs[j] hj (List.getElem?_eq_getElem _)
              rw [this]; decide
            rw [this] at q
            exact q
        · by_cases z : j = i
          · subst z; rw [hx] at hjx; cases hjx; exact hc
          · exact hb j x (by omega) hjx
      · rintro ρ' ⟨⟨s1, s2, rfl⟩, hb⟩
        have : xs.findIdx? (fun x => !isRowD x) = none := by
          rw [List.findIdx?_eq_none_iff]
          intro x hx
          obtain ⟨j, hj⟩ := List.mem_iff_getElem?.mp hx
          have hl := (List.getElem?_eq_some_iff.mp hj).1
          rw [hb j x (by rw [enumD_len]; exact hl) hj]; rfl
        rw [this] at q
        exact q
/-- right rows in a list or tuple -/
def RowsD (d : D) (rs : List Rw) : Prop := ∃ xs, d.seq = some xs ∧ xs.length ≤ 1000 ∧ RowsAre xs rs
def T_added : List D → (D → Prop) → Prop := fun ds Q => ∃ d rs, ds = [d] ∧ RowsD d rs ∧ Q (addedD rs)
abbrev N_added : List Str := ["rows", "sums", "account", "thing", "amount", "key"]
theorem S_added : FnScope N_added ["rows"] (defScope s_added) := ⟨rfl, rfl, rfl, by decide +kernel, rfl, by decide +kernel, by decide +kernel⟩
theorem ok_added (T : TX P K mg) : FnB P w K mg base 1 "added" ["rows"] (spN K T_added) := by
  obtain ⟨fd, F⟩ := T.F_added
  refine fn_N (k := 0) F T.g_added (fun _ _ _ _ _ _ us hl => match us, hl with | [_], _ => rfl) S_added (fun ds Qd h => by first | (obtain ⟨rfl, _⟩ := h; rfl) | (obtain ⟨_, rfl, _⟩ := h; rfl) | (obtain ⟨_, _, rfl, _⟩ := h; rfl) | (obtain ⟨_, _, _, rfl, _⟩ := h; rfl) | (obtain ⟨_, _, _, _, rfl, _⟩ := h; rfl) | (obtain ⟨_, _, _, _, _, rfl, _⟩ := h; rfl) | (obtain ⟨_, _, _, _, _, _, rfl, _⟩ := h; rfl)) fun cdv A outer s H E hr => ⟨_, (pss_cons (ps_set (i := 1) S_added.nd rfl (by first | exact .inl rfl | exact .inr rfl) pe_dnewT)
      (pss_cons (ps_for PassesOwn.never rfl (kwU (K := K) rfl (pv 0)) (pg_or (kgt (K := K) (n := 3) rfl rfl (pgs_cons (pg_name (i := 2) S_added.nd rfl (by first | exact .inl rfl | exact .inr rfl)) (pgs_cons (pg_name (i := 3) S_added.nd rfl (by first | exact .inl rfl | exact .inr rfl)) (pgs_cons (pg_name (i := 4) S_added.nd rfl (by first | exact .inl rfl | exact .inr rfl)) pgs_nil)))) (kgu (K := K) (n := 3) rfl rfl (pgs_cons (pg_name (i := 2) S_added.nd rfl (by first | exact .inl rfl | exact .inr rfl)) (pgs_cons (pg_name (i := 3) S_added.nd rfl (by first | exact .inl rfl | exact .inr rfl)) (pgs_cons (pg_name (i := 4) S_added.nd rfl (by first | exact .inl rfl | exact .inr rfl)) pgs_nil)))))
      (pss_one (ps_dput (hu_of hr) (pv 1) (pe_tup (pa_cons (pv 2) (pa_cons (pv 3) pa_nil))) (pe_op op_add (pe_dget2 (hu_of hr) (pv 1) (pe_tup (pa_cons (pv 2) (pa_cons (pv 3) pa_nil))) pe_int ⟨rfl, rfl, rfl, rfl⟩) (pv 4)) rfl)))
      (pss_one (ps_ret (pe_lc (own := [("key", 5)]) rfl S_added.nd (kwl (K := K) rfl (pe_callB (SrtK.cr_sortKD rfl) (by rfl) T.n_sorted (by decide +kernel) (pa_cons (pv 1) pa_nil))) (blkOk_by (own := [("key", 5)]) (N := N_added) (sc := defScope s_added) (by decide +kernel)) (fun _ _ _ _ _ => (pg_name (i := 5) S_added.nd rfl (by first | exact .inl rfl | exact .inr rfl))) (fun _ _ _ _ _ => (pts_one (pt_cmpR op_ne (pe_dget (hu_of hr) (pv 1) (pv 5) (fun _ _ => rfl)) pe_int (nomark _)))) (fun _ _ _ _ _ => (pe_op (kcatA (K := K) rfl) (pv 5) (pe_tup (pa_cons (pe_dget (hu_of hr) (pv 1) (pv 5) (fun _ _ => rfl)) pa_nil))))))))), fun ds Qd h => ?_⟩
  obtain ⟨d, rs, rfl, ⟨xs, hs, hl, hr2⟩, q⟩ := h
  refine ws_seq <| ws_asgN <| en_dnewT fun p => ?_
  refine ws_seq <| ws_for <| ei_seq d hs <| ew_var rfl ⟨rfl, fun i ρ => ∃ s2 s3 s4 : Sl, ρ = [.sh d, .own p (.dt (ilift (sumsR (rs.take i)))), s2, s3, s4, .un], ⟨_, _, _, rfl⟩, ?_, ?_⟩
  · rintro i y ρ' hy ⟨s2, s3, s4, rfl⟩
    obtain ⟨r, hr, hyr⟩ := hr2.at hy
    have hlt := (List.getElem?_eq_some_iff.mp hr).1
    have hle : (ilift (sumsR (rs.take i))).length < 90000 := by
      rw [ilift_len]
      have := sumBy_len keyR amt (rs.take i)
      rw [List.length_take] at this
      have := hr2.len
      unfold sumsR
      omega
    have e1 : sumsR (rs.take (i + 1)) = iput (sumsR (rs.take i)) (keyR r) (iget (sumsR (rs.take i)) (keyR r) + r.2.2) := by
      rw [List.take_add_one, hr]; exact sumBy_snoc keyR amt (rs.take i) r
    refine gw_seq hyr rfl (gws_cons <| gw_name <| gws_cons <| gw_name <| gws_cons <| gw_name <| gws_nil ?_) (gws_cons <| gw_name <| gws_cons <| gw_name <| gws_cons <| gw_name <| gws_nil ?_)
    all_goals
      refine ws_dputT (a := p) <| ew_op <| ew_get2T rfl <| ew_tup <| ea_cons <| ew_var rfl <| ea_cons <| ew_var rfl <| ea_nil ⟨by show 2 ≤ 100000; decide, ew_int ⟨keyR r, _, rfl, rfl, ?_⟩⟩
      rw [dget_ilift_getD]
      refine ew_var rfl <| op2_int ⟨⟨_, rfl⟩, ew_tup <| ea_cons <| ew_var rfl <| ea_cons <| ew_var rfl <| ea_nil ⟨by show 2 ≤ 100000; decide, keyR r, _, rfl, rfl, hle, ?_⟩⟩
      rw [dput_ilift, ← e1]
      exact ⟨_, _, _, rfl⟩
  · rintro ρ' ⟨s2, s3, s4, rfl⟩
    rw [show rs.take xs.length = rs from List.take_of_length_le (by rw [hr2.len]; exact Nat.le_refl _)]
    have nn := sumsR_shp rs
    refine ws_share (i := 1) rfl <| ws_retNew <| en_lcFt (fun k => D.tup (k.map kD)) (srtK ((sumsR rs).map (·.1))) (fun k => D.tup (k.map kD ++ [D.int (iget (sumsR rs) k)])) (fun k => !decide (iget (sumsR rs) k = 0)) <| ei_list <| ew_new <| en_cb <| ea_cons <| ew_var rfl <| ea_nil <| opn_sortKD (by rw [ilift_keys]; exact nn) ⟨_, rfl, by rw [ilift_keys], rfl, ?_, fun k hk => ?_, q⟩
    · rw [srtK_len, List.length_map]
      have := sumBy_len keyR amt rs
      have := hr2.len
      unfold sumsR
      omega
    · have hm : k ∈ (sumsR rs).map (·.1) := srtK_mem.mp hk
      have hg : dget (ilift (sumsR rs)) k = some (.int (iget (sumsR rs) k)) := dget_ilift_mem hm
      have hl2 : k.length = 2 := by have := congrArg List.length (nn k hm); simpa [shp] using this
      refine gv_name (by decide) <| et_test <| ew_op <| ew_dgetVT rfl <| ew_var rfl ⟨k, _, _, rfl, rfl, hg, ew_int <| op2_ne_int ⟨_, rfl, rfl, rfl, fun _ => ?_⟩⟩
      refine ew_op <| ew_var rfl <| ew_tup <| ea_cons <| ew_dgetVT rfl <| ew_var rfl ⟨k, _, _, rfl, rfl, hg, ea_nil ⟨by show 1 ≤ 100000; decide, op2_catT (by rw [List.length_map, hl2]; show 2 + 1 ≤ 90000; decide) ⟨rfl, rfl⟩⟩⟩
def T_is_even : List D → (D → Prop) → Prop := fun ds Q => ∃ d rs, ds = [d] ∧ RowsD d rs ∧ Q (.bl (evenB rs))
abbrev N_is_even : List Str := ["rows", "sums", "account", "thing", "amount"]
theorem S_is_even : FnScope N_is_even ["rows"] (defScope s_is_even) := ⟨rfl, rfl, rfl, by decide +kernel, rfl, by decide +kernel, by decide +kernel⟩
theorem ok_is_even (T : TX P K mg) : FnB P w K mg base 1 "is_even" ["rows"] (spP K T_is_even) := by
  obtain ⟨fd, F⟩ := T.F_is_even
  refine fn_P (k := 0) F T.g_is_even (fun _ _ _ _ _ _ us hl => match us, hl with | [_], _ => rfl) S_is_even (fun ds Qd h => by first | (obtain ⟨rfl, _⟩ := h; rfl) | (obtain ⟨_, rfl, _⟩ := h; rfl) | (obtain ⟨_, _, rfl, _⟩ := h; rfl) | (obtain ⟨_, _, _, rfl, _⟩ := h; rfl) | (obtain ⟨_, _, _, _, rfl, _⟩ := h; rfl) | (obtain ⟨_, _, _, _, _, rfl, _⟩ := h; rfl) | (obtain ⟨_, _, _, _, _, _, rfl, _⟩ := h; rfl)) fun cdv A outer s H E hr => ⟨_, (pss_cons (ps_set (i := 1) S_is_even.nd rfl (by first | exact .inl rfl | exact .inr rfl) pe_dnewK)
      (pss_cons (ps_for PassesOwn.never rfl (kwU (K := K) rfl (pv 0)) (pg_or (kgt (K := K) (n := 3) rfl rfl (pgs_cons (pg_name (i := 2) S_is_even.nd rfl (by first | exact .inl rfl | exact .inr rfl)) (pgs_cons (pg_name (i := 3) S_is_even.nd rfl (by first | exact .inl rfl | exact .inr rfl)) (pgs_cons (pg_name (i := 4) S_is_even.nd rfl (by first | exact .inl rfl | exact .inr rfl)) pgs_nil)))) (kgu (K := K) (n := 3) rfl rfl (pgs_cons (pg_name (i := 2) S_is_even.nd rfl (by first | exact .inl rfl | exact .inr rfl)) (pgs_cons (pg_name (i := 3) S_is_even.nd rfl (by first | exact .inl rfl | exact .inr rfl)) (pgs_cons (pg_name (i := 4) S_is_even.nd rfl (by first | exact .inl rfl | exact .inr rfl)) pgs_nil)))))
      (pss_one (ps_dput (hu_of hr) (pv 1) (pv 3) (pe_op op_add (pe_dget2 (hu_of hr) (pv 1) (pv 3) pe_int ⟨rfl, rfl, rfl, rfl⟩) (pv 4)) rfl)))
      (pss_one (ps_ret (pe_callB (kall rfl (K := K) rfl) (by rfl) T.n_all (by decide +kernel) (pa_cons (pe_either (pe_lock (pe_lc (own := [("amount", 4)]) rfl S_is_even.nd (pi_values (pv 1)) (blkOk_by (own := [("amount", 4)]) (N := N_is_even) (sc := defScope s_is_even) (by decide +kernel)) (fun _ _ _ _ _ => (pg_name (i := 4) S_is_even.nd rfl (by first | exact .inl rfl | exact .inr rfl))) (fun _ _ _ _ _ => pts_nil) (fun _ _ _ _ _ => (pe_cmpR op_eq (pv 4) pe_int (nomark _))))) (pe_lc (own := [("amount", 4)]) rfl S_is_even.nd (pi_values (pv 1)) (blkOk_by (own := [("amount", 4)]) (N := N_is_even) (sc := defScope s_is_even) (by decide +kernel)) (fun _ _ _ _ _ => (pg_name (i := 4) S_is_even.nd rfl (by first | exact .inl rfl | exact .inr rfl))) (fun _ _ _ _ _ => pts_nil) (fun _ _ _ _ _ => (pe_cmpR op_eq (pv 4) pe_int (nomark _))))) pa_nil)))))), fun ds Qd h => ?_⟩
  obtain ⟨d, rs, rfl, ⟨xs, hs, hl, hr2⟩, q⟩ := h
  refine ws_seq <| ws_asgN <| en_dnewK fun p => ?_
  refine ws_seq <| ws_for <| ei_seq d hs <| ew_var rfl ⟨rfl, fun i ρ => ∃ s2 s3 s4 : Sl, ρ = [.sh d, .own p (.dk (ilift (sumsT (rs.take i)))), s2, s3, s4] ∧ (s4.isOwn = false), ⟨_, _, _, rfl, rfl⟩, ?_, ?_⟩
  · rintro i y ρ' hy ⟨s2, s3, s4, rfl, h4⟩
    obtain ⟨r, hr, hyr⟩ := hr2.at hy
    have hle : (ilift (sumsT (rs.take i))).length < 90000 := by
      rw [ilift_len]
      have := sumBy_len keyT amt (rs.take i)
      rw [List.length_take] at this
      have := hr2.len
      unfold sumsT
      omega
    have e1 : sumsT (rs.take (i + 1)) = iput (sumsT (rs.take i)) (keyT r) (iget (sumsT (rs.take i)) (keyT r) + r.2.2) := by
      rw [List.take_add_one, hr]; exact sumBy_snoc keyT amt (rs.take i) r
    refine gw_seq hyr rfl (gws_cons <| gw_name <| gws_cons <| gw_name <| gws_cons <| gw_name <| gws_nil ?_) (gws_cons <| gw_name <| gws_cons <| gw_name <| gws_cons <| gw_name <| gws_nil ?_)
    all_goals
      refine ws_dput (a := p) <| ew_op <| ew_get2 rfl <| ew_var rfl <| ew_int ⟨keyT r, _, rfl, rfl, ?_⟩
      rw [dget_ilift_getD]
      refine ew_var rfl <| op2_int ⟨⟨_, rfl⟩, ew_var rfl ⟨keyT r, _, rfl, rfl, hle, ?_⟩⟩
      rw [dput_ilift, ← e1]
      exact ⟨_, _, _, rfl, rfl⟩
  · rintro ρ' ⟨s2, s3, s4, rfl, h4⟩
    rw [show rs.take xs.length = rs from List.take_of_length_le (by rw [hr2.len]; exact Nat.le_refl _)]
    refine ws_share (i := 1) rfl <| ws_ret <| ew_cb <| ea_cons <| ew_new <| en_lcDMt (fun v => D.int v) ((sumsT rs).map (·.2)) (fun v => D.bl (decide (v = 0))) (i0 := 1) rfl rfl (by rw [List.map_map]; have w := wk_vals (K := K) (i := 1) (ps := ilift (sumsT rs)); unfold ilift at w; rw [List.map_map] at w; exact w) (by unfold ownFree ownFree; cases s4 <;> first | rfl | cases h4) ?_ (fun v hv => ?_) <| ea_nil ?_
    · rw [List.length_map]
      have := sumBy_len keyT amt rs
      have := hr2.len
      unfold sumsT
      omega
    · exact gv_name (by decide) <| ew_op <| ew_var rfl <| ew_int <| op2_eq_int ⟨rfl, rfl⟩
    · have e : (((sumsT rs).map (·.2)).map fun v => D.bl (decide (v = 0))) = ((sumsT rs).map fun p => decide (p.2 = 0)).map D.bl := by rw [List.map_map, List.map_map]; rfl
      rw [e]
      refine opa_all ?_
      rw [List.all_map]
      exact q
theorem firstBad_none {d : D} (h : firstBad d = none) (o : Ok d) : ∃ xs, d.seq = some xs ∧ RowsD d (xs.map rowOf) ∧ ∀ x ∈ xs, isRowD x = true := by
  unfold firstBad at h
  cases e : d.seq with
  | none => rw [e] at h; cases h
  | some xs =>
    rw [e] at h
    have h : xs.findIdx? (fun x => !isRowD x) = none := h
    rw [List.findIdx?_eq_none_iff] at h
    have h2 : ∀ x ∈ xs, isRowD x = true := fun x hx => by have := h x hx; simpa using this
    exact ⟨xs, rfl, ⟨xs, e, (o.seq e).1, rowsAre_of h2⟩, h2⟩
def rowsOfD (d : D) : List Rw := match d.seq with
  | some xs => xs.map rowOf
  | none => []
def T_told_rows : List D → (D → Prop) → (Str → Str → D → Prop) → Prop := fun ds Q X => ∃ d, ds = [d] ∧ Ok d ∧ match firstBad d with
  | none => Q (addedD (rowsOfD d))
  | some i => X "BadRow" "index" (.int (i : Nat))
abbrev N_told_rows : List Str := ["rows"]
theorem S_told_rows : FnScope N_told_rows ["rows"] (defScope s_told_rows) := ⟨rfl, rfl, rfl, by decide +kernel, rfl, by decide +kernel, by decide +kernel⟩
theorem ok_told_rows (T : TX P K mg) : FnX P w K mg base 5 "told_rows" ["rows"] (spXN K T_told_rows) := by
  obtain ⟨fd, F⟩ := T.F_told_rows
  have G_check_rows := ok_check_rows (P := P) (w := w) (base := base) T
  have G_added := ok_added (P := P) (w := w) (base := base) T
  refine fn_XN (k := 4) F T.g_told_rows (fun _ _ _ _ _ _ us hl => match us, hl with | [_], _ => rfl) S_told_rows (fun ds Qd X h => by first | (obtain ⟨rfl, _⟩ := h; rfl) | (obtain ⟨_, rfl, _⟩ := h; rfl) | (obtain ⟨_, _, rfl, _⟩ := h; rfl) | (obtain ⟨_, _, _, rfl, _⟩ := h; rfl) | (obtain ⟨_, _, _, _, rfl, _⟩ := h; rfl) | (obtain ⟨_, _, _, _, _, rfl, _⟩ := h; rfl) | (obtain ⟨_, _, _, _, _, _, rfl, _⟩ := h; rfl)) fun cdv A outer s H W hr tk po => ⟨_, (pss_cons (ps_expr (pe_callX G_check_rows tk (fun _ _ _ _ h => h) (hr.mono (by first | decide | omega)) (pa_cons (pv 0) pa_nil)))
      (pss_one (ps_ret (pe_callF G_added (hr.mono (by first | decide | omega)) (pa_cons (pv 0) pa_nil))))), fun ds Qd X h => ?_⟩
  obtain ⟨d, rfl, hd, q⟩ := h
  refine ws_seq <| ws_dropX rfl <| ex_call <| ea_cons <| ew_var rfl <| ea_nil ⟨d, rfl, hd, ?_⟩
  cases e : firstBad d with
  | some i => rw [e] at q; exact q
  | none =>
    rw [e] at q
    obtain ⟨xs, h1, h2, _⟩ := firstBad_none e hd
    refine ws_retNew <| en_callN <| ea_cons <| ew_var rfl <| ea_nil ⟨d, _, rfl, h2, ?_⟩
    unfold rowsOfD at q
    rw [h1] at q
    exact q
def T_is_balanced : List D → (D → Prop) → (Str → Str → D → Prop) → Prop := fun ds Q X => ∃ d, ds = [d] ∧ Ok d ∧ match firstBad d with
  | none => Q (.bl (evenB (rowsOfD d)))
  | some i => X "BadRow" "index" (.int (i : Nat))
abbrev N_is_balanced : List Str := ["rows"]
theorem S_is_balanced : FnScope N_is_balanced ["rows"] (defScope s_is_balanced) := ⟨rfl, rfl, rfl, by decide +kernel, rfl, by decide +kernel, by decide +kernel⟩
theorem ok_is_balanced (T : TX P K mg) : FnX P w K mg base 5 "is_balanced" ["rows"] (spX K T_is_balanced) := by
  obtain ⟨fd, F⟩ := T.F_is_balanced
  have G_check_rows := ok_check_rows (P := P) (w := w) (base := base) T
  have G_is_even := ok_is_even (P := P) (w := w) (base := base) T
  refine fn_X (k := 4) F T.g_is_balanced (fun _ _ _ _ _ _ us hl => match us, hl with | [_], _ => rfl) S_is_balanced (fun ds Qd X h => by first | (obtain ⟨rfl, _⟩ := h; rfl) | (obtain ⟨_, rfl, _⟩ := h; rfl) | (obtain ⟨_, _, rfl, _⟩ := h; rfl) | (obtain ⟨_, _, _, rfl, _⟩ := h; rfl) | (obtain ⟨_, _, _, _, rfl, _⟩ := h; rfl) | (obtain ⟨_, _, _, _, _, rfl, _⟩ := h; rfl) | (obtain ⟨_, _, _, _, _, _, rfl, _⟩ := h; rfl)) fun cdv A outer s H W hr tk po => ⟨_, (pss_cons (ps_expr (pe_callX G_check_rows tk (fun _ _ _ _ h => h) (hr.mono (by first | decide | omega)) (pa_cons (pv 0) pa_nil)))
      (pss_one (ps_ret (pe_callF G_is_even (hr.mono (by first | decide | omega)) (pa_cons (pv 0) pa_nil))))), fun ds Qd X h => ?_⟩
  obtain ⟨d, rfl, hd, q⟩ := h
  refine ws_seq <| ws_dropX rfl <| ex_call <| ea_cons <| ew_var rfl <| ea_nil ⟨d, rfl, hd, ?_⟩
  cases e : firstBad d with
  | some i => rw [e] at q; exact q
  | none =>
    rw [e] at q
    obtain ⟨xs, h1, h2, _⟩ := firstBad_none e hd
    refine ws_ret <| ew_callP <| ea_cons <| ew_var rfl <| ea_nil ⟨d, _, rfl, h2, ?_⟩
    unfold rowsOfD at q
    rw [h1] at q
    exact q
end
end K25

set_option Elab.async false
set_option linter.all false
set_option maxRecDepth 100000
namespace K25
open PySem PySem.Spec PyProof.Rows L2 DL SrtK
def rowT (r : Rw) : D := .tup [.str r.1, .str r.2.1, .int r.2.2]
def accs : List Str := ["ann", "bob", "the-till", "the-pool", "zz"]
def thgs : List Str := ["coin", "seat", "x"]
/-- a row that the law draws -/
def GoodR (r : Rw) : Prop := r.1 ∈ accs ∧ r.2.1 ∈ thgs
theorem good_row {r : Rw} (h : GoodR r) : isRowD (rowT r) = true := by
  have h1 : ∀ x ∈ accs, isAccS x = true := by decide +kernel
  have h2 : ∀ x ∈ thgs, isNameS x = true := by decide +kernel
  show (isAccS r.1 && (isNameS r.2.1 && true)) = true
  rw [h1 _ h.1, h2 _ h.2]; rfl
theorem ok_row {r : Rw} (h : GoodR r) : Ok (rowT r) := by
  have h1 : ∀ x ∈ accs, x.length ≤ 1000 := by decide +kernel
  have h2 : ∀ x ∈ thgs, x.length ≤ 1000 := by decide +kernel
  exact .tup (by show 3 ≤ 1000; decide) (memc (.str (h1 _ h.1)) <| memc (.str (h2 _ h.2)) <| memc (.int _) memn)
theorem rowsT_are (rs : List Rw) : RowsAre (rs.map rowT) rs := by
  unfold RowsAre
  rw [List.map_map]; rfl
theorem rowOf_T (r : Rw) : rowOf (rowT r) = r := rfl
theorem strs_mem {xs : List Str} {d : D} (h : d ∈ xs.map D.str) : ∃ x ∈ xs, d = .str x := by
  obtain ⟨x, hx, rfl⟩ := List.mem_map.mp h
  exact ⟨x, hx, rfl⟩
section
variable {P : Program} {w : World} {K : PySem.W.Frag} {mg : Str → Option Value} {base : Heap}
def T__law_some_rows : List D → (D → Prop) → Prop := fun ds Q => ds = [.int 8] ∧ ∀ rs : List Rw, rs.length ≤ 8 → (∀ r ∈ rs, GoodR r) → Q (.lst (rs.map rowT))
abbrev N__law_some_rows : List Str := ["_law_draws", "_law_many", "_law_accounts", "_law_things", "_law_found", "_law_k", "_law_amount"]
theorem S__law_some_rows : FnScope N__law_some_rows ["_law_draws", "_law_many"] (defScope s__law_some_rows) := ⟨rfl, rfl, rfl, by decide +kernel, rfl, by decide +kernel, by decide +kernel⟩
theorem ok__law_some_rows (T : TX P K mg) : FnB P w K mg base 3 "_law_some_rows" ["_law_draws", "_law_many"] (spW K T__law_some_rows) := by
  obtain ⟨fd, F⟩ := T.F__law_some_rows
  have G__law_draw := ok__law_draw (P := P) (w := w) (base := base) T
  have G__law_pick := ok__law_pick (P := P) (w := w) (base := base) T
  refine fn_W (k := 2) F T.g__law_some_rows (fun _ _ _ _ _ _ us hl => match us, hl with | [_, _], _ => rfl) S__law_some_rows (by decide) (fun ds Qd h => by first | (obtain ⟨rfl, _⟩ := h; rfl) | (obtain ⟨_, rfl, _⟩ := h; rfl) | (obtain ⟨_, _, rfl, _⟩ := h; rfl) | (obtain ⟨_, _, _, rfl, _⟩ := h; rfl) | (obtain ⟨_, _, _, _, rfl, _⟩ := h; rfl) | (obtain ⟨_, _, _, _, _, rfl, _⟩ := h; rfl) | (obtain ⟨_, _, _, _, _, _, rfl, _⟩ := h; rfl)) fun cdv A outer s H E hr => ⟨_, (pss_cons (ps_par (i := 2) (j := 3) (by rfl) S__law_some_rows.nd rfl rfl (by decide) (by rfl) (by rfl) (pa_cons (pe_lst (pa_cons pe_str (pa_cons pe_str (pa_cons pe_str (pa_cons pe_str (pa_cons pe_str pa_nil)))))) (pa_cons (pe_lst (pa_cons pe_str (pa_cons pe_str (pa_cons pe_str pa_nil)))) pa_nil)) (by rfl))
      (pss_cons (ps_set (i := 4) S__law_some_rows.nd rfl (by first | exact .inl rfl | exact .inr rfl) (pe_lst pa_nil))
      (pss_cons (ps_for PassesOwn.never rfl (pi_range1 (by rfl) T.n_range (pa_cons (pe_callF G__law_draw (hr.mono (by first | decide | omega)) (pa_cons (pv 0) (pa_cons (pe_op op_add (pv 1) pe_int) pa_nil))) pa_nil)) (pg_name (i := 5) S__law_some_rows.nd rfl (by first | exact .inl rfl | exact .inr rfl))
      (pss_cons (ps_set (i := 6) S__law_some_rows.nd rfl (by first | exact .inl rfl | exact .inr rfl) (pe_callF G__law_pick (hr.mono (by first | decide | omega)) (pa_cons (pv 0) (pa_cons (pe_lst (pa_cons pe_int (pa_cons pe_int (pa_cons (pe_un un_neg pe_int) (pa_cons pe_int (pa_cons (pe_op op_sub (pe_op op_pow pe_int pe_int) pe_int) (pa_cons (pe_op op_sub pe_int (pe_op op_pow pe_int pe_int)) pa_nil))))))) pa_nil))))
      (pss_one (ps_expr (kbm (K := K) (id := "") rfl (pe_bm PySem.F.plainAttrs_list PySem.F.slot_list_append PySem.F.type_list_append mt_append (pv 4) (pa_cons (pe_tup (pa_cons (pe_callF G__law_pick (hr.mono (by first | decide | omega)) (pa_cons (pv 0) (pa_cons (pv 2) pa_nil))) (pa_cons (pe_callF G__law_pick (hr.mono (by first | decide | omega)) (pa_cons (pv 0) (pa_cons (pv 3) pa_nil))) (pa_cons (pv 6) pa_nil)))) pa_nil)))))))
      (pss_one (ps_ret (pv 4)))))), fun a ds Qd h => ?_⟩
  obtain ⟨rfl, q⟩ := h
  refine ws_seq <| ws_par <| ea_cons <| ew_new <| en_lst <| ea_cons <| ew_str <| ea_cons <| ew_str <| ea_cons <| ew_str <| ea_cons <| ew_str <| ea_cons <| ew_str <| ea_nil ⟨by show 5 ≤ 100000; decide, ?_⟩
  refine ea_cons <| ew_new <| en_lst <| ea_cons <| ew_str <| ea_cons <| ew_str <| ea_cons <| ew_str <| ea_nil ⟨by show 3 ≤ 100000; decide, ea_nil ⟨_, _, rfl, ?_⟩⟩
  refine ws_seq <| ws_asgN <| en_lst <| ea_nil ⟨by show 0 ≤ 100000; decide, fun p => ?_⟩
  refine ws_seq <| ws_for <| ei_range1 <| ea_cons <| ew_callW rfl <| ea_cons <| ew_op <| ew_var rfl <| ew_int <| op2_int <| ea_nil ⟨rfl, _, rfl, by decide, by decide, fun m hm0 hm1 => ea_nil ⟨m, rfl, by omega, by omega, ?_⟩⟩
  refine ⟨fun i ρ => ∃ (rs : List Rw) (s5 s6 : Sl), ρ = [.drw a, .sh (.int 8), .sh (.lst (accs.map D.str)), .sh (.lst (thgs.map D.str)), .own p (.lst (rs.map rowT)), s5, s6] ∧ rs.length = i ∧ ∀ r ∈ rs, GoodR r, ⟨[], _, _, rfl, rfl, fun r h => (nomatch h)⟩, ?_, ?_⟩
  · rintro i y ρ' hy ⟨rs, s5, s6, rfl, hl, hg⟩
    have hi : i < 9 := by
      have := (List.getElem?_eq_some_iff.mp hy).1
      rw [List.length_map, List.length_range] at this
      omega
    have c2 : ∀ {i j : Int}, i = 10 → j = 15 → (0 ≤ j ∧ j ≤ 64 ∧ -100 ≤ i ∧ i ≤ 100) := fun h h' => by omega
    refine gw_name <| ws_seq <| ws_asg <| ew_callW rfl <| ea_cons <| ew_new <| en_lst <| ea_cons <| ew_int <| ea_cons <| ew_int <| ea_cons <| ew_un <| ew_int <| op1_neg <| ea_cons <| ew_int <| ea_cons <| ew_op <| ew_op <| ew_int <| ew_int <| op2_intC ⟨by decide, by decide, by decide⟩ <| ew_int <| op2_int <| ea_cons <| ew_op <| ew_int <| ew_op <| ew_int <| ew_int <| op2_intC ⟨by decide, by decide, by decide⟩ <| op2_int <| ea_nil ⟨by show 6 ≤ 100000; decide, ea_nil ⟨rfl, _, _, rfl, rfl, by show 0 < 6; decide, by show 6 ≤ 100000; decide, fun n hn => ?_⟩⟩
    obtain ⟨z, rfl⟩ : ∃ z : Int, n = .int z := by
      simp only [List.mem_cons, List.not_mem_nil, or_false] at hn
      rcases hn with rfl | rfl | rfl | rfl | rfl | rfl <;> exact ⟨_, rfl⟩
    refine gw_name <| ws_drop <| ew_append (a := p) rfl <| ew_tup <| ea_cons <| ew_callW rfl <| ea_cons <| ew_var rfl <| ea_nil ⟨rfl, _, _, rfl, rfl, by show 0 < 5; decide, by show 5 ≤ 100000; decide, fun x hx => ?_⟩
    obtain ⟨x, hx2, rfl⟩ := strs_mem (xs := accs) hx
    refine ea_cons <| ew_callW rfl <| ea_cons <| ew_var rfl <| ea_nil ⟨rfl, _, _, rfl, rfl, by show 0 < 3; decide, by show 3 ≤ 100000; decide, fun t ht => ?_⟩
    obtain ⟨t, ht2, rfl⟩ := strs_mem (xs := thgs) ht
    refine ea_cons <| ew_var rfl <| ea_nil ⟨by show 3 ≤ 100000; decide, _, rfl, by rw [List.length_map]; omega, ?_⟩
    refine ⟨rs ++ [(x, t, z)], _, _, by rw [List.map_append]; rfl, by rw [List.length_append, hl]; rfl, fun r hr => ?_⟩
    rcases List.mem_append.mp hr with hr | hr
    · exact hg r hr
    · rw [List.mem_singleton.mp hr]; exact ⟨hx2, ht2⟩
  · rintro ρ' ⟨rs, s5, s6, rfl, hl, hg⟩
    refine ws_retO (i := 4) rfl ⟨rfl, q rs ?_ hg⟩
    rw [List.length_map, List.length_range] at hl
    omega
/-- the law's own sums -/
def T__law_sums : List D → (D → Prop) → Prop := fun ds Q => ∃ rs : List Rw, ds = [.lst (rs.map rowT)] ∧ rs.length ≤ 1000 ∧ Q (.dt ((goodK rs).map fun k => (k, .int (iget (sumsR rs) k))))
abbrev N__law_sums : List Str := ["_law_rows", "_law_found", "_law_account", "_law_thing", "_law_amount", "_law_key"]
theorem S__law_sums : FnScope N__law_sums ["_law_rows"] (defScope s__law_sums) := ⟨rfl, rfl, rfl, by decide +kernel, rfl, by decide +kernel, by decide +kernel⟩
theorem ok__law_sums (T : TX P K mg) : FnB P w K mg base 1 "_law_sums" ["_law_rows"] (spP K T__law_sums) := by
  obtain ⟨fd, F⟩ := T.F__law_sums
  refine fn_P (k := 0) F T.g__law_sums (fun _ _ _ _ _ _ us hl => match us, hl with | [_], _ => rfl) S__law_sums (fun ds Qd h => by first | (obtain ⟨rfl, _⟩ := h; rfl) | (obtain ⟨_, rfl, _⟩ := h; rfl) | (obtain ⟨_, _, rfl, _⟩ := h; rfl) | (obtain ⟨_, _, _, rfl, _⟩ := h; rfl) | (obtain ⟨_, _, _, _, rfl, _⟩ := h; rfl) | (obtain ⟨_, _, _, _, _, rfl, _⟩ := h; rfl) | (obtain ⟨_, _, _, _, _, _, rfl, _⟩ := h; rfl)) fun cdv A outer s H E hr => ⟨_, (pss_cons (ps_set (i := 1) S__law_sums.nd rfl (by first | exact .inl rfl | exact .inr rfl) pe_dnewT)
      (pss_cons (ps_for PassesOwn.never rfl (kwU (K := K) rfl (pv 0)) (kgt (K := K) (n := 3) rfl rfl (pgs_cons (pg_name (i := 2) S__law_sums.nd rfl (by first | exact .inl rfl | exact .inr rfl)) (pgs_cons (pg_name (i := 3) S__law_sums.nd rfl (by first | exact .inl rfl | exact .inr rfl)) (pgs_cons (pg_name (i := 4) S__law_sums.nd rfl (by first | exact .inl rfl | exact .inr rfl)) pgs_nil))))
      (pss_one (ps_dput (hu_of hr) (pv 1) (pe_tup (pa_cons (pv 2) (pa_cons (pv 3) pa_nil))) (pe_op op_add (pe_dget2 (hu_of hr) (pv 1) (pe_tup (pa_cons (pv 2) (pa_cons (pv 3) pa_nil))) pe_int ⟨rfl, rfl, rfl, rfl⟩) (pv 4)) rfl)))
      (pss_one (ps_ret (pe_callTy (kdictT (K := K) rfl hr.units rfl) (by rfl) T.n_dict (by decide +kernel) (pa_cons (pe_lc (own := [("_law_key", 5)]) rfl S__law_sums.nd (kwl (K := K) rfl (pe_callB (SrtK.cr_sortKD rfl) (by rfl) T.n_sorted (by decide +kernel) (pa_cons (pv 1) pa_nil))) (blkOk_by (own := [("_law_key", 5)]) (N := N__law_sums) (sc := defScope s__law_sums) (by decide +kernel)) (fun _ _ _ _ _ => (pg_name (i := 5) S__law_sums.nd rfl (by first | exact .inl rfl | exact .inr rfl))) (fun _ _ _ _ _ => (pts_one (pt_cmpR op_ne (pe_dget (hu_of hr) (pv 1) (pv 5) (fun _ _ => rfl)) pe_int (nomark _)))) (fun _ _ _ _ _ => (pe_tup (pa_cons (pv 5) (pa_cons (pe_dget (hu_of hr) (pv 1) (pv 5) (fun _ _ => rfl)) pa_nil))))) pa_nil)))))), fun ds Qd h => ?_⟩
  obtain ⟨rs, rfl, hl, q⟩ := h
  have hr2 := rowsT_are rs
  refine ws_seq <| ws_asgN <| en_dnewT fun p => ?_
  refine ws_seq <| ws_for <| ei_seq (.lst (rs.map rowT)) rfl <| ew_var rfl ⟨rfl, fun i ρ => ∃ s2 s3 s4 : Sl, ρ = [.sh (.lst (rs.map rowT)), .own p (.dt (ilift (sumsR (rs.take i)))), s2, s3, s4, .un], ⟨_, _, _, rfl⟩, ?_, ?_⟩
  · rintro i y ρ' hy ⟨s2, s3, s4, rfl⟩
    rw [List.getElem?_map] at hy
    obtain ⟨r, hr, rfl⟩ := Option.map_eq_some_iff.mp hy
    have hlt := (List.getElem?_eq_some_iff.mp hr).1
    have hle : (ilift (sumsR (rs.take i))).length < 90000 := by
      rw [ilift_len]
      have := sumBy_len keyR amt (rs.take i)
      rw [List.length_take] at this
      unfold sumsR
      omega
    have e1 : sumsR (rs.take (i + 1)) = iput (sumsR (rs.take i)) (keyR r) (iget (sumsR (rs.take i)) (keyR r) + r.2.2) := by
      rw [List.take_add_one, hr]; exact sumBy_snoc keyR amt (rs.take i) r
    refine gw_tup rfl <| gws_cons <| gw_name <| gws_cons <| gw_name <| gws_cons <| gw_name <| gws_nil ?_
    refine ws_dputT (a := p) <| ew_op <| ew_get2T rfl <| ew_tup <| ea_cons <| ew_var rfl <| ea_cons <| ew_var rfl <| ea_nil ⟨by show 2 ≤ 100000; decide, ew_int ⟨keyR r, _, rfl, rfl, ?_⟩⟩
    rw [dget_ilift_getD]
    refine ew_var rfl <| op2_int ⟨⟨_, rfl⟩, ew_tup <| ea_cons <| ew_var rfl <| ea_cons <| ew_var rfl <| ea_nil ⟨by show 2 ≤ 100000; decide, keyR r, _, rfl, rfl, hle, ?_⟩⟩
    rw [dput_ilift, ← e1]
    exact ⟨_, _, _, rfl⟩
  · rintro ρ' ⟨s2, s3, s4, rfl⟩
    rw [show rs.take (rs.map rowT).length = rs from List.take_of_length_le (by rw [List.length_map]; exact Nat.le_refl _)]
    have nn := sumsR_shp rs
    refine ws_share (i := 1) rfl <| ws_ret <| ew_new <| en_cb <| ea_cons <| ew_new <| en_lcFt (fun k => D.tup (k.map kD)) (srtK ((sumsR rs).map (·.1))) (fun k => D.tup [D.tup (k.map kD), D.int (iget (sumsR rs) k)]) (fun k => !decide (iget (sumsR rs) k = 0)) <| ei_list <| ew_new <| en_cb <| ea_cons <| ew_var rfl <| ea_nil <| opn_sortKD (by rw [ilift_keys]; exact nn) ⟨_, rfl, by rw [ilift_keys], rfl, ?_, fun k hk => ?_, ea_nil ?_⟩
    · rw [srtK_len, List.length_map]
      have := sumBy_len keyR amt rs
      unfold sumsR
      omega
    · have hm : k ∈ (sumsR rs).map (·.1) := srtK_mem.mp hk
      have hg : dget (ilift (sumsR rs)) k = some (.int (iget (sumsR rs) k)) := dget_ilift_mem hm
      refine gv_name (by decide) <| et_test <| ew_op <| ew_dgetVT rfl <| ew_var rfl ⟨k, _, _, rfl, rfl, hg, ew_int <| op2_ne_int ⟨_, rfl, rfl, rfl, fun _ => ?_⟩⟩
      exact ew_tup <| ea_cons <| ew_var rfl <| ea_cons <| ew_dgetVT rfl <| ew_var rfl ⟨k, _, _, rfl, rfl, hg, ea_nil ⟨by show 2 ≤ 100000; decide, rfl, rfl⟩⟩
    · have hn : ((goodK rs).map fun k => (k, D.int (iget (sumsR rs) k))).map (·.1) = goodK rs := by
        rw [List.map_map]
        exact List.map_id' _
      have nd : (goodK rs).Nodup := List.Nodup.sublist List.filter_sublist (srtK_nodup (sumBy_nodup keyR amt rs))
      have el : ((goodK rs).length) ≤ 90000 := by
        have h1 : (goodK rs).length ≤ (srtK ((sumsR rs).map (·.1))).length := List.length_filter_le _ _
        rw [srtK_len, List.length_map] at h1
        have := sumBy_len keyR amt rs
        unfold sumsR at h1
        omega
      have := opn_dictT (K := K) (Q := fun d _ => Qd d) (ρ := [.sh (.lst (rs.map rowT)), .sh (.dt (ilift (sumsR rs))), s2, s3, s4, .un]) (ps := (goodK rs).map fun k => (k, D.int (iget (sumsR rs) k))) (by rw [List.length_map]; exact el) (by
        rw [dputs_nodup _ [] (by rw [List.nil_append, hn]; exact nd)]
        exact q)
      rw [List.map_map] at this
      exact this
def T__law_told : List D → (D → Prop) → Prop := fun ds Q => ∃ rs : List Rw, ds = [.lst (rs.map rowT)] ∧ rs.length ≤ 1000 ∧ Q (addedD rs)
abbrev N__law_told : List Str := ["_law_rows", "_law_sums_here", "_law_key"]
theorem S__law_told : FnScope N__law_told ["_law_rows"] (defScope s__law_told) := ⟨rfl, rfl, rfl, by decide +kernel, rfl, by decide +kernel, by decide +kernel⟩
theorem ok__law_told (T : TX P K mg) : FnB P w K mg base 2 "_law_told" ["_law_rows"] (spP K T__law_told) := by
  obtain ⟨fd, F⟩ := T.F__law_told
  have G__law_sums := ok__law_sums (P := P) (w := w) (base := base) T
  refine fn_P (k := 1) F T.g__law_told (fun _ _ _ _ _ _ us hl => match us, hl with | [_], _ => rfl) S__law_told (fun ds Qd h => by first | (obtain ⟨rfl, _⟩ := h; rfl) | (obtain ⟨_, rfl, _⟩ := h; rfl) | (obtain ⟨_, _, rfl, _⟩ := h; rfl) | (obtain ⟨_, _, _, rfl, _⟩ := h; rfl) | (obtain ⟨_, _, _, _, rfl, _⟩ := h; rfl) | (obtain ⟨_, _, _, _, _, rfl, _⟩ := h; rfl) | (obtain ⟨_, _, _, _, _, _, rfl, _⟩ := h; rfl)) fun cdv A outer s H E hr => ⟨_, (pss_cons (ps_set (i := 1) S__law_told.nd rfl (by first | exact .inl rfl | exact .inr rfl) (pe_callF G__law_sums (hr.mono (by first | decide | omega)) (pa_cons (pv 0) pa_nil)))
      (pss_one (ps_ret (pe_either (pe_lock (pe_lc (own := [("_law_key", 2)]) rfl S__law_told.nd (pi_keys (pv 1)) (blkOk_by (own := [("_law_key", 2)]) (N := N__law_told) (sc := defScope s__law_told) (by decide +kernel)) (fun _ _ _ _ _ => (pg_name (i := 2) S__law_told.nd rfl (by first | exact .inl rfl | exact .inr rfl))) (fun _ _ _ _ _ => pts_nil) (fun _ _ _ _ _ => (pe_tup (pa_cons (pe_ix (kix (K := K) rfl) (pv 2) pe_int (fun _ _ => rfl)) (pa_cons (pe_ix (kix (K := K) rfl) (pv 2) pe_int (fun _ _ => rfl)) (pa_cons (pe_dget (hu_of hr) (pv 1) (pv 2) (fun _ _ => rfl)) pa_nil))))))) (pe_lc (own := [("_law_key", 2)]) rfl S__law_told.nd (pi_keys (pv 1)) (blkOk_by (own := [("_law_key", 2)]) (N := N__law_told) (sc := defScope s__law_told) (by decide +kernel)) (fun _ _ _ _ _ => (pg_name (i := 2) S__law_told.nd rfl (by first | exact .inl rfl | exact .inr rfl))) (fun _ _ _ _ _ => pts_nil) (fun _ _ _ _ _ => (pe_tup (pa_cons (pe_ix (kix (K := K) rfl) (pv 2) pe_int (fun _ _ => rfl)) (pa_cons (pe_ix (kix (K := K) rfl) (pv 2) pe_int (fun _ _ => rfl)) (pa_cons (pe_dget (hu_of hr) (pv 1) (pv 2) (fun _ _ => rfl)) pa_nil)))))))))), fun ds Qd h => ?_⟩
  obtain ⟨rs, rfl, hl, q⟩ := h
  refine ws_seq <| ws_asg <| ew_callP <| ea_cons <| ew_var rfl <| ea_nil ⟨rs, rfl, hl, gw_name ?_⟩
  have nd : (goodK rs).Nodup := List.Nodup.sublist List.filter_sublist (srtK_nodup (sumBy_nodup keyR amt rs))
  have hk2 : ∀ k ∈ goodK rs, ∃ a b : Str, k = [.inr a, .inr b] := fun k hk => by
    obtain ⟨r, _, e⟩ := sumBy_keys keyR amt rs k (srtK_mem.mp (List.mem_filter.mp hk).1)
    exact ⟨_, _, e⟩
  have hget : ∀ k ∈ goodK rs, dget ((goodK rs).map fun k => (k, D.int (iget (sumsR rs) k))) k = some (.int (iget (sumsR rs) k)) := by
    have key : ∀ (l : List (List Key)) k, k ∈ l → dget (l.map fun k => (k, D.int (iget (sumsR rs) k))) k = some (.int (iget (sumsR rs) k)) := by
      intro l k hk
      induction l with
      | nil => cases hk
      | cons x l ih =>
        unfold dget
        rw [List.map_cons, List.find?_cons]
        by_cases z : x = k
        · subst z; rw [decide_eq_true rfl]; rfl
        · rw [decide_eq_false z]
          rcases List.mem_cons.mp hk with e | hk
          · exact absurd e.symm z
          · exact ih hk
    exact key _
  refine ws_ret <| ew_new <| en_lcDMt (fun k => D.tup (k.map kD)) (goodK rs) (fun k => D.tup (k.map kD ++ [D.int (iget (sumsR rs) k)])) (i0 := 1) rfl rfl (by
    have w := wk_keysT (K := K) (i := 1) (ps := (goodK rs).map fun k => (k, D.int (iget (sumsR rs) k)))
    rw [List.map_map] at w
    exact w) rfl ?_ (fun k hk => ?_) q
  · have h1 : (goodK rs).length ≤ (srtK ((sumsR rs).map (·.1))).length := List.length_filter_le _ _
    rw [srtK_len, List.length_map] at h1
    have := sumBy_len keyR amt rs
    unfold sumsR at h1
    omega
  · obtain ⟨x, y, e⟩ := hk2 k hk
    have hg := hget k hk
    subst e
    exact gv_name (by decide) <| ew_tup <| ea_cons <| ew_op <| ew_var rfl <| ew_int <| op2_ix rfl rfl <| ea_cons <| ew_op <| ew_var rfl <| ew_int <| op2_ix rfl rfl <| ea_cons <| ew_dgetVT rfl <| ew_var rfl ⟨[.inr x, .inr y], _, _, rfl, rfl, hg, ea_nil ⟨by show 3 ≤ 100000; decide, rfl, rfl⟩⟩
/-- rows with more that make them balance: rows again -/
def T__law_balanced : List D → (D → Prop) → Prop := fun ds Q => ∃ rs : List Rw, ds = [.lst (rs.map rowT)] ∧ rs.length ≤ 8 ∧ (∀ r ∈ rs, GoodR r) ∧ ∀ rs' : List Rw, rs'.length ≤ 16 → (∀ r ∈ rs', GoodR r) → Q (.lst (rs'.map rowT))
abbrev N__law_balanced : List Str := ["_law_rows", "_law_sums_here", "_law_account", "_law_thing", "_law_amount"]
theorem S__law_balanced : FnScope N__law_balanced ["_law_rows"] (defScope s__law_balanced) := ⟨rfl, rfl, rfl, by decide +kernel, rfl, by decide +kernel, by decide +kernel⟩
theorem ok__law_balanced (T : TX P K mg) : FnB P w K mg base 1 "_law_balanced" ["_law_rows"] (spP K T__law_balanced) := by
  obtain ⟨fd, F⟩ := T.F__law_balanced
  refine fn_P (k := 0) F T.g__law_balanced (fun _ _ _ _ _ _ us hl => match us, hl with | [_], _ => rfl) S__law_balanced (fun ds Qd h => by first | (obtain ⟨rfl, _⟩ := h; rfl) | (obtain ⟨_, rfl, _⟩ := h; rfl) | (obtain ⟨_, _, rfl, _⟩ := h; rfl) | (obtain ⟨_, _, _, rfl, _⟩ := h; rfl) | (obtain ⟨_, _, _, _, rfl, _⟩ := h; rfl) | (obtain ⟨_, _, _, _, _, rfl, _⟩ := h; rfl) | (obtain ⟨_, _, _, _, _, _, rfl, _⟩ := h; rfl)) fun cdv A outer s H E hr => ⟨_, (pss_cons (ps_set (i := 1) S__law_balanced.nd rfl (by first | exact .inl rfl | exact .inr rfl) pe_dnewK)
      (pss_cons (ps_for PassesOwn.never rfl (kwU (K := K) rfl (pv 0)) (kgt (K := K) (n := 3) rfl rfl (pgs_cons (pg_name (i := 2) S__law_balanced.nd rfl (by first | exact .inl rfl | exact .inr rfl)) (pgs_cons (pg_name (i := 3) S__law_balanced.nd rfl (by first | exact .inl rfl | exact .inr rfl)) (pgs_cons (pg_name (i := 4) S__law_balanced.nd rfl (by first | exact .inl rfl | exact .inr rfl)) pgs_nil))))
      (pss_one (ps_dput (hu_of hr) (pv 1) (pv 3) (pe_op op_add (pe_dget2 (hu_of hr) (pv 1) (pv 3) pe_int ⟨rfl, rfl, rfl, rfl⟩) (pv 4)) rfl)))
      (pss_one (ps_ret (pe_op op_cat (pv 0) (pe_either (pe_lock (pe_lc (own := [("_law_thing", 3)]) rfl S__law_balanced.nd (pi_keys (pv 1)) (blkOk_by (own := [("_law_thing", 3)]) (N := N__law_balanced) (sc := defScope s__law_balanced) (by decide +kernel)) (fun _ _ _ _ _ => (pg_name (i := 3) S__law_balanced.nd rfl (by first | exact .inl rfl | exact .inr rfl))) (fun _ _ _ _ _ => pts_nil) (fun _ _ _ _ _ => (pe_tup (pa_cons pe_str (pa_cons (pv 3) (pa_cons (pe_op op_sub pe_int (pe_dget (hu_of hr) (pv 1) (pv 3) (fun _ _ => rfl))) pa_nil))))))) (pe_lc (own := [("_law_thing", 3)]) rfl S__law_balanced.nd (pi_keys (pv 1)) (blkOk_by (own := [("_law_thing", 3)]) (N := N__law_balanced) (sc := defScope s__law_balanced) (by decide +kernel)) (fun _ _ _ _ _ => (pg_name (i := 3) S__law_balanced.nd rfl (by first | exact .inl rfl | exact .inr rfl))) (fun _ _ _ _ _ => pts_nil) (fun _ _ _ _ _ => (pe_tup (pa_cons pe_str (pa_cons (pv 3) (pa_cons (pe_op op_sub pe_int (pe_dget (hu_of hr) (pv 1) (pv 3) (fun _ _ => rfl))) pa_nil)))))))))))), fun ds Qd h => ?_⟩
  obtain ⟨rs, rfl, hl, hg, q⟩ := h
  refine ws_seq <| ws_asgN <| en_dnewK fun p => ?_
  refine ws_seq <| ws_for <| ei_seq (.lst (rs.map rowT)) rfl <| ew_var rfl ⟨rfl, fun i ρ => ∃ s2 s3 s4 : Sl, ρ = [.sh (.lst (rs.map rowT)), .own p (.dk (ilift (sumsT (rs.take i)))), s2, s3, s4] ∧ s3.isOwn = false, ⟨_, _, _, rfl, rfl⟩, ?_, ?_⟩
  · rintro i y ρ' hy ⟨s2, s3, s4, rfl, h3⟩
    rw [List.getElem?_map] at hy
    obtain ⟨r, hr, rfl⟩ := Option.map_eq_some_iff.mp hy
    have hle : (ilift (sumsT (rs.take i))).length < 90000 := by
      rw [ilift_len]
      have := sumBy_len keyT amt (rs.take i)
      rw [List.length_take] at this
      unfold sumsT
      omega
    have e1 : sumsT (rs.take (i + 1)) = iput (sumsT (rs.take i)) (keyT r) (iget (sumsT (rs.take i)) (keyT r) + r.2.2) := by
      rw [List.take_add_one, hr]; exact sumBy_snoc keyT amt (rs.take i) r
    refine gw_tup rfl <| gws_cons <| gw_name <| gws_cons <| gw_name <| gws_cons <| gw_name <| gws_nil ?_
    refine ws_dput (a := p) <| ew_op <| ew_get2 rfl <| ew_var rfl <| ew_int ⟨keyT r, _, rfl, rfl, ?_⟩
    rw [dget_ilift_getD]
    refine ew_var rfl <| op2_int ⟨⟨_, rfl⟩, ew_var rfl ⟨keyT r, _, rfl, rfl, hle, ?_⟩⟩
    rw [dput_ilift, ← e1]
    exact ⟨_, _, _, rfl, rfl⟩
  · rintro ρ' ⟨s2, s3, s4, rfl, h3⟩
    rw [show rs.take (rs.map rowT).length = rs from List.take_of_length_le (by rw [List.length_map]; exact Nat.le_refl _)]
    have hks : ∀ k ∈ (sumsT rs).map (·.1), ∃ x ∈ thgs, k = .inr x := fun k hk => by
      obtain ⟨r, hr, e⟩ := sumBy_keys keyT amt rs k hk
      exact ⟨_, (hg r hr).2, e⟩
    have hln := sumBy_len keyT amt rs
    let more : Key → Rw := fun k => match k with
      | .inr x => ("the-till", x, 0 - iget (sumsT rs) k)
      | .inl _ => ("the-till", "coin", 0)
    refine ws_share (i := 1) rfl <| ws_ret <| ew_new <| en_cat <| ew_var rfl <| ew_new <| en_lcDMt (fun k => kD k) ((sumsT rs).map (·.1)) (fun k => rowT (more k)) (i0 := 1) rfl rfl (by
      have w := wk_keys (K := K) (i := 1) (ps := ilift (sumsT rs))
      unfold ilift at w
      rw [List.map_map] at w
      rw [List.map_map]
      exact w) (by unfold ownFree ownFree; cases s3 <;> first | rfl | cases h3) (by rw [List.length_map]; unfold sumsT; omega) (fun k hk => ?_) ⟨_, _, rfl, rfl, by rw [List.length_map, List.length_map, List.length_map]; unfold sumsT; omega, ?_⟩
    · obtain ⟨x, hx, rfl⟩ := hks k hk
      have hgt : dget (ilift (sumsT rs)) (.inr x) = some (.int (iget (sumsT rs) (.inr x))) := dget_ilift_mem hk
      exact gv_name (by decide) <| ew_tup <| ea_cons <| ew_str <| ea_cons <| ew_var rfl <| ea_cons <| ew_op <| ew_int <| ew_dgetV rfl <| ew_var rfl ⟨.inr x, _, _, rfl, rfl, hgt, op2_int <| ea_nil ⟨by show 3 ≤ 100000; decide, rfl, rfl⟩⟩
    · have := q (rs ++ ((sumsT rs).map (·.1)).map more) (by rw [List.length_append, List.length_map, List.length_map]; unfold sumsT; omega) (fun r hr => ?_)
      · rw [List.map_append, List.map_map] at this
        exact this
      · rcases List.mem_append.mp hr with hr | hr
        · exact hg r hr
        · obtain ⟨k, hk, rfl⟩ := List.mem_map.mp hr
          obtain ⟨x, hx, rfl⟩ := hks k hk
          exact ⟨show ("the-till" : Str) ∈ accs by decide +kernel, hx⟩
end
end K25

set_option Elab.async false
set_option linter.all false
set_option maxRecDepth 100000
namespace K25
open PySem PySem.Spec PyProof.Rows L2 DL SrtK
abbrev N_law : List Str := ["_law_script", "_law_odd", "_law_turn", "_law_draws", "_law_rows", "_law_handed", "_law_sums_here", "_law_account", "_law_thing", "_law_amount", "_law_due", "_law_again", "_law_found", "_law_at", "_law_bad", "_law_row"]
theorem S_law : FnScope N_law ["_law_script"] (defScope s_law) := ⟨rfl, rfl, rfl, by decide +kernel, rfl, by decide +kernel, by decide +kernel⟩
abbrev N__law_tried : List Str := ["_law_work", "e"]
theorem S__law_tried : FnScope N__law_tried ["_law_work"] (defScope s__law_tried) := ⟨rfl, rfl, rfl, by decide +kernel, rfl, by decide +kernel, by decide +kernel⟩
abbrev qLam : Str := (envOfC "law" (defScope s_law) 0 0 .none).qual ++ "<lambda>"
def oddA : List D := [.non, .int 5, .tup [], .tup [.str "ann", .str "coin"], .tup [.str "ann", .str "coin", .int 1, .int 1], .tup [.str "Ann", .str "coin", .int 1], .tup [.str "the-bank", .str "coin", .int 1], .str "abc", .dk []]
def oddB : List D := [.tup [.str "ann", .str "the-till", .int 1], .tup [.str "ann", .str "coin", .bl true], .tup [.str "ann", .str "coin", .str "1"], .tup [.str "", .str "coin", .int 1], .tup [.int 5, .str "coin", .int 1]]
def oddL : List D := oddA ++ oddB
theorem odd_no : ∀ d ∈ oddL, isRowD d = false := by
  unfold oddL oddA oddB
  refine mema (memc (by decide +kernel) <| memc (by decide +kernel) <| memc (by decide +kernel) <| memc (by decide +kernel) <| memc (by decide +kernel) <| memc (by decide +kernel) <| memc (by decide +kernel) <| memc (by decide +kernel) <| memc (by decide +kernel) memn) ?_
  exact memc (by decide +kernel) <| memc (by decide +kernel) <| memc (by decide +kernel) <| memc (by decide +kernel) <| memc (by decide +kernel) memn
theorem odd_ok : ∀ d ∈ oddL, Ok d := by
  have st : ∀ {x : Str}, decide (x.length ≤ 1000) = true → Ok (.str x) := okS
  have t3 : ∀ {x y z : D}, Ok x → Ok y → Ok z → Ok (.tup [x, y, z]) := fun h h' h'' => .tup (by show 3 ≤ 1000; decide) (memc h <| memc h' <| memc h'' memn)
  unfold oddL oddA oddB
  refine mema (memc .non <| memc (.int _) <| memc (.tup (by show 0 ≤ 1000; decide) memn) <| memc (.tup (by show 2 ≤ 1000; decide) (memc (st (by decide +kernel)) <| memc (st (by decide +kernel)) memn)) <| memc (.tup (by show 4 ≤ 1000; decide) (memc (st (by decide +kernel)) <| memc (st (by decide +kernel)) <| memc (.int _) <| memc (.int _) memn)) <| memc (t3 (st (by decide +kernel)) (st (by decide +kernel)) (.int _)) <| memc (t3 (st (by decide +kernel)) (st (by decide +kernel)) (.int _)) <| memc (st (by decide +kernel)) <| memc (.dk (by show 0 ≤ 1000; decide)) memn) ?_
  exact memc (t3 (st (by decide +kernel)) (st (by decide +kernel)) (.int _)) <| memc (t3 (st (by decide +kernel)) (st (by decide +kernel)) (.bl _)) <| memc (t3 (st (by decide +kernel)) (st (by decide +kernel)) (st (by decide +kernel))) <| memc (t3 (st (by decide +kernel)) (st (by decide +kernel)) (.int _)) <| memc (t3 (.int _) (st (by decide +kernel)) (.int _)) memn
/-- rows as lists -/
def rowL (r : Rw) : D := .lst [.str r.1, .str r.2.1, .int r.2.2]
theorem goodL_row {r : Rw} (h : GoodR r) : isRowD (rowL r) = true := good_row h
theorem okL_row {r : Rw} (h : GoodR r) : Ok (rowL r) := by
  cases ok_row h with | tup a b => exact .lst a b
theorem pyL_row {r : Rw} (h : GoodR r) : PyOk 1 (rowL r) := by
  have h1 : ∀ x ∈ accs, PyData.strOk x = true := by decide +kernel
  have h2 : ∀ x ∈ thgs, PyData.strOk x = true := by decide +kernel
  exact .lst (memc (.str (h1 _ h.1)) <| memc (.str (h2 _ h.2)) <| memc (.int _) memn)
theorem mem_map_all {f : Rw → D} {rs : List Rw} {C : D → Prop} (h : ∀ r ∈ rs, C (f r)) : ∀ d ∈ rs.map f, C d := fun d hd => by
  obtain ⟨r, hr, rfl⟩ := List.mem_map.mp hd
  exact h r hr
theorem first_none {d : D} {xs : List D} (h : d.seq = some xs) (hx : ∀ x ∈ xs, isRowD x = true) : firstBad d = none := by
  unfold firstBad
  rw [h]
  show xs.findIdx? _ = none
  rw [List.findIdx?_eq_none_iff]
  intro x hm
  rw [hx x hm]; rfl
theorem rows_of {f : Rw → D} (hf : ∀ r, rowOf (f r) = r) {d : D} {rs : List Rw} (h : d.seq = some (rs.map f)) : rowsOfD d = rs := by
  unfold rowsOfD
  rw [h]
  show (rs.map f).map rowOf = rs
  rw [List.map_map]
  have : rowOf ∘ f = id := funext hf
  rw [this, List.map_id]
theorem first_at {xs ys : List D} {o : D} (h1 : ∀ x ∈ xs, isRowD x = true) (h2 : isRowD o = false) : firstBad (.lst (xs ++ o :: ys)) = some xs.length := by
  show (xs ++ o :: ys).findIdx? _ = _
  rw [List.findIdx?_append]
  have e : xs.findIdx? (fun x => !isRowD x) = none := by
    rw [List.findIdx?_eq_none_iff]
    intro x hm
    rw [h1 x hm]; rfl
  rw [e, List.findIdx?_cons, h2]
  simp
theorem Pl.up {n : Nat} {d : D} (h : Pl n d) : Pl (n + 1) d := by
  induction h with
  | bl b => exact .bl b
  | int b => exact .int b
  | str b => exact .str b
  | lst a _ ih => exact .lst a ih
  | tup a _ ih => exact .tup a ih
theorem addedD_pl (rs : List Rw) (hl : rs.length ≤ 1000) : Pl 2 (addedD rs) := by
  refine .lst ?_ fun x hx => ?_
  · have h1 : (goodK rs).length ≤ (srtK ((sumsR rs).map (·.1))).length := List.length_filter_le _ _
    rw [srtK_len, List.length_map] at h1
    have := sumBy_len keyR amt rs
    unfold sumsR at h1
    rw [List.length_map]
    omega
  · obtain ⟨k, hk, rfl⟩ := List.mem_map.mp hx
    obtain ⟨r, _, e⟩ := sumBy_keys keyR amt rs k (srtK_mem.mp (List.mem_filter.mp hk).1)
    subst e
    exact .tup (by show 3 ≤ 1000; decide) (memc (.str _) <| memc (.str _) <| memc (.int _) memn)
theorem cut_to (ds : List D) (i : Nat) : cutDD ds none (some (i : Int)) = ds.take i := by
  unfold cutDD
  rw [HT.sIx_none, HT.sIx_nat, List.drop_zero, Nat.sub_zero]
  rw [List.take_eq_take_iff]
  omega
theorem cut_from (ds : List D) (i : Nat) (h : i ≤ ds.length) : cutDD ds (some (i : Int)) none = ds.drop i := by
  unfold cutDD
  rw [HT.sIx_none, HT.sIx_nat, Nat.min_eq_left h]
  exact List.take_of_length_le (by rw [List.length_drop]; exact Nat.le_refl _)
section
variable {P : Program} {w : World} {K : PySem.W.Frag} {mg : Str → Option Value} {base : Heap}
def TLaw : D → (D → Prop) → Prop := fun d Q => ∃ ns : List Int, d = .scr ns ∧ Q (.bl true)
theorem ok_law {f : Addr} {fd : FuncData} (F : FunD K "law" "law" (defArgs s_law) (defBody s_law) (defScope s_law) [] [] f fd) (T : TX P K mg) {c Pt : Addr} (hc : fd.code = .ref c) (TB : LamX.TabB base mg c Pt) : FnOk P w K mg base CX0 9 f fd ["_law_script"] (spT K Pt qLam TLaw) := by
  have G__law_source := ok__law_source (P := P) (w := w) (base := base) T
  have G__law_some_rows := ok__law_some_rows (P := P) (w := w) (base := base) T
  have G__law_draw := ok__law_draw (P := P) (w := w) (base := base) T
  have G__law_balanced := ok__law_balanced (P := P) (w := w) (base := base) T
  have G_told_rows := ok_told_rows (P := P) (w := w) (base := base) T
  have G__law_same := ok__law_same (P := P) (w := w) (base := base) T
  have G_is_balanced := ok_is_balanced (P := P) (w := w) (base := base) T
  have G__law_told := ok__law_told (P := P) (w := w) (base := base) T
  have G__law_pick := ok__law_pick (P := P) (w := w) (base := base) T
  obtain ⟨fdT, FT⟩ := T.F__law_tried
  have bT := FT.bindsN (ps := ["_law_work"]) (fun _ _ _ _ _ _ us hl => match us, hl with | [_], _ => rfl)
  obtain ⟨ocT, odT, dVT, kVT, docT, pmT, anT, cdvT, ctT, oslT, rfl, lkT, hcT, _, _⟩ := id FT.ex
  refine fn_T (k := 8) F S_law rfl (by decide) fun cdv A outer s H E hcd hr => ?_
  rw [hc] at hcd
  subst hcd
  refine ⟨_, (pss_cons (ps_set (i := 1) S_law.nd rfl (by first | exact .inl rfl | exact .inr rfl) (pe_lst (pa_cons pe_non (pa_cons pe_int (pa_cons (pe_tup pa_nil) (pa_cons (pe_tup (pa_cons pe_str (pa_cons pe_str pa_nil))) (pa_cons (pe_tup (pa_cons pe_str (pa_cons pe_str (pa_cons pe_int (pa_cons pe_int pa_nil))))) (pa_cons (pe_tup (pa_cons pe_str (pa_cons pe_str (pa_cons pe_int pa_nil)))) (pa_cons (pe_tup (pa_cons pe_str (pa_cons pe_str (pa_cons pe_int pa_nil)))) (pa_cons pe_str (pa_cons pe_dnewK pa_nil)))))))))))
      (pss_cons (ps_expr (kbm (K := K) (id := "") rfl (pe_bm PySem.F.plainAttrs_list PySem.F.slot_list_extend PySem.F.type_list_extend mt_extend (pv 1) (pa_cons (pe_lst (pa_cons (pe_tup (pa_cons pe_str (pa_cons pe_str (pa_cons pe_int pa_nil)))) (pa_cons (pe_tup (pa_cons pe_str (pa_cons pe_str (pa_cons pe_bl pa_nil)))) (pa_cons (pe_tup (pa_cons pe_str (pa_cons pe_str (pa_cons pe_str pa_nil)))) (pa_cons (pe_tup (pa_cons pe_str (pa_cons pe_str (pa_cons pe_int pa_nil)))) (pa_cons (pe_tup (pa_cons pe_int (pa_cons pe_str (pa_cons pe_int pa_nil)))) pa_nil)))))) pa_nil))))
      (pss_cons (ps_for PassesOwn.never rfl (pi_range1 (by rfl) T.n_range (pa_cons (pe_op op_add pe_int (pe_callB (call_min2 rfl) (by rfl) T.n_min (by decide +kernel) (pa_cons (pe_callB (klen (K := K) rfl) (by rfl) T.n_len (by decide +kernel) (pa_cons (pv 0) pa_nil)) (pa_cons pe_int pa_nil)))) pa_nil)) (pg_name (i := 2) S_law.nd rfl (by first | exact .inl rfl | exact .inr rfl))
      (pss_cons (ps_set (i := 3) S_law.nd rfl (by first | exact .inl rfl | exact .inr rfl) (pe_callF G__law_source (hr.mono (by first | decide | omega)) (pa_cons (pv 0) (pa_cons (pv 2) pa_nil))))
      (pss_cons (ps_set (i := 4) S_law.nd rfl (by first | exact .inl rfl | exact .inr rfl) (pe_callF G__law_some_rows (hr.mono (by first | decide | omega)) (pa_cons (pv 3) (pa_cons pe_int pa_nil))))
      (pss_cons (ps_if (pt_cmpR op_eq (pe_callF G__law_draw (hr.mono (by first | decide | omega)) (pa_cons (pv 3) (pa_cons pe_int pa_nil))) pe_int (nomark _)) (pss_one (ps_set (i := 4) S_law.nd rfl (by first | exact .inl rfl | exact .inr rfl) (pe_callF G__law_balanced (hr.mono (by first | decide | omega)) (pa_cons (pv 4) pa_nil)))) pss_nil)
      (pss_cons (ps_setLc (i := 5) (own := [("_law_row", 15)]) rfl S_law.nd rfl rfl (sw_true rfl rfl rfl (by decide +kernel)) (kwU (K := K) rfl (pv 4)) (blkOk_by (own := [("_law_row", 15)]) (N := N_law) (sc := defScope s_law) (by decide +kernel)) (fun _ _ _ _ _ => (pg_name (i := 15) S_law.nd rfl (by first | exact .inl rfl | exact .inr rfl))) (fun _ _ _ _ _ => pts_nil) (fun _ _ _ _ _ => (pe_callTy (klist (K := K) rfl) (by rfl) T.n_list (by decide +kernel) (pa_cons (pv 15) pa_nil))))
      (pss_cons (ps_set (i := 6) S_law.nd rfl (by first | exact .inl rfl | exact .inr rfl) pe_dnewK)
      (pss_cons (ps_for PassesOwn.never rfl (kwU (K := K) rfl (pv 4)) (kgt (K := K) (n := 3) rfl rfl (pgs_cons (pg_name (i := 7) S_law.nd rfl (by first | exact .inl rfl | exact .inr rfl)) (pgs_cons (pg_name (i := 8) S_law.nd rfl (by first | exact .inl rfl | exact .inr rfl)) (pgs_cons (pg_name (i := 9) S_law.nd rfl (by first | exact .inl rfl | exact .inr rfl)) pgs_nil))))
      (pss_one (ps_dput (hu_of hr) (pv 6) (pv 8) (pe_op op_add (pe_dget2 (hu_of hr) (pv 6) (pv 8) pe_int ⟨rfl, rfl, rfl, rfl⟩) (pv 9)) rfl)))
      (pss_cons (ps_set (i := 10) S_law.nd rfl (by first | exact .inl rfl | exact .inr rfl) (pe_callB (kall rfl (K := K) rfl) (by rfl) T.n_all (by decide +kernel) (pa_cons (pe_either (pe_lock (pe_lc (own := [("_law_thing", 8)]) rfl S_law.nd (pi_keys (pv 6)) (blkOk_by (own := [("_law_thing", 8)]) (N := N_law) (sc := defScope s_law) (by decide +kernel)) (fun _ _ _ _ _ => (pg_name (i := 8) S_law.nd rfl (by first | exact .inl rfl | exact .inr rfl))) (fun _ _ _ _ _ => pts_nil) (fun _ _ _ _ _ => (pe_cmpR op_eq (pe_dget (hu_of hr) (pv 6) (pv 8) (fun _ _ => rfl)) pe_int (nomark _))))) (pe_lc (own := [("_law_thing", 8)]) rfl S_law.nd (pi_keys (pv 6)) (blkOk_by (own := [("_law_thing", 8)]) (N := N_law) (sc := defScope s_law) (by decide +kernel)) (fun _ _ _ _ _ => (pg_name (i := 8) S_law.nd rfl (by first | exact .inl rfl | exact .inr rfl))) (fun _ _ _ _ _ => pts_nil) (fun _ _ _ _ _ => (pe_cmpR op_eq (pe_dget (hu_of hr) (pv 6) (pv 8) (fun _ _ => rfl)) pe_int (nomark _))))) pa_nil)))
      (pss_cons (ps_for PassesOwn.never rfl (pi_range1 (by rfl) T.n_range (pa_cons pe_int pa_nil)) (pg_name (i := 11) S_law.nd rfl (by first | exact .inl rfl | exact .inr rfl))
      (pss_cons (ps_set (i := 12) S_law.nd rfl (by first | exact .inl rfl | exact .inr rfl) (pe_callX G_told_rows takesN (E := E0) (fun _ _ _ _ h => h) (hr.mono (by first | decide | omega)) (pa_cons (pv 5) pa_nil)))
      (pss_cons (ps_if (pt_not (pt_val (pe_callF G__law_same (hr.mono (by first | decide | omega)) (pa_cons (pe_lst (pa_cons (pv 12) (pa_cons (pe_callX G_is_balanced takesN (E := E0) (fun _ _ _ _ h => h) (hr.mono (by first | decide | omega)) (pa_cons (pe_callTy (ktuple (K := K) rfl) (by rfl) T.n_tuple (by decide +kernel) (pa_cons (pv 5) pa_nil)) pa_nil)) pa_nil))) (pa_cons (pe_lst (pa_cons (pe_callF G__law_told (hr.mono (by first | decide | omega)) (pa_cons (pv 4) pa_nil)) (pa_cons (pv 10) pa_nil))) pa_nil))))) (pss_one (ps_ret pe_bl)) pss_nil)
      (pss_one (ps_expr (kbm (K := K) (id := "") rfl (pe_bm PySem.F.plainAttrs_list PySem.F.slot_list_append PySem.F.type_list_append mt_append (pv 12) (pa_cons pe_str pa_nil))))))))
      (pss_cons (ps_if (pt_cmpR (kneD (K := K) rfl hr.units) (pv 5) (pe_lc (own := [("_law_row", 15)]) rfl S_law.nd (kwU (K := K) rfl (pv 4)) (blkOk_by (own := [("_law_row", 15)]) (N := N_law) (sc := defScope s_law) (by decide +kernel)) (fun _ _ _ _ _ => (pg_name (i := 15) S_law.nd rfl (by first | exact .inl rfl | exact .inr rfl))) (fun _ _ _ _ _ => pts_nil) (fun _ _ _ _ _ => (pe_callTy (klist (K := K) rfl) (by rfl) T.n_list (by decide +kernel) (pa_cons (pv 15) pa_nil)))) (nomark _)) (pss_one (ps_ret pe_bl)) pss_nil)
      (pss_cons (ps_set (i := 13) S_law.nd rfl (by first | exact .inl rfl | exact .inr rfl) (pe_callF G__law_draw (hr.mono (by first | decide | omega)) (pa_cons (pv 3) (pa_cons (pe_op op_add (pe_callB (klen (K := K) rfl) (by rfl) T.n_len (by decide +kernel) (pa_cons (pv 4) pa_nil)) pe_int) pa_nil))))
      (pss_cons (ps_set (i := 14) S_law.nd rfl (by first | exact .inl rfl | exact .inr rfl) (pe_op op_cat (pe_op op_cat (pe_op op_cat (pe_slice (ksl (K := K) rfl) (pv 4) po_none (po_some (pv 13))) (pe_lst (pa_cons (pe_callF G__law_pick (hr.mono (by first | decide | omega)) (pa_cons (pv 3) (pa_cons (pv 1) pa_nil))) pa_nil))) (pe_slice (ksl (K := K) rfl) (pv 4) (po_some (pv 13)) po_none)) (pe_lst (pa_cons (pe_callF G__law_pick (hr.mono (by first | decide | omega)) (pa_cons (pv 3) (pa_cons (pv 1) pa_nil))) pa_nil))))
      (pss_cons (ps_set (i := 8) S_law.nd rfl (by first | exact .inl rfl | exact .inr rfl) (pe_callF G__law_pick (hr.mono (by first | decide | omega)) (pa_cons (pv 3) (pa_cons (pe_lst (pa_cons pe_non (pa_cons pe_int (pa_cons pe_str (pa_cons pe_dnewK (pa_cons pe_bl pa_nil)))))) pa_nil))))
      (pss_cons (ps_set (i := 12) S_law.nd rfl (by first | exact .inl rfl | exact .inr rfl) (pe_lst (pa_cons (LamY.pe_lamcall3 (TT := LamY.TTried K (He.ga K "BadRow") "index" "told" "row") (k := 6) (Ng := N__law_tried) (by rfl) T.g__law_tried FT.kp lkT hcT bT S__law_tried rfl (.inl rfl) (LamY.tried_gives (i := 1) T.xf_BadRow T.xn_BadRow rfl T.g_BadRow (by decide) S__law_tried.nd rfl rfl (by decide) (by decide) (fun _ => rfl) (fun _ => by show 1 < 2; decide)) TB rfl (hr.mono (by first | decide | omega)) (LamX.lamS_by (sc := defScope s_law) (by decide +kernel)) rfl (fun _ _ _ _ _ => rfl) (fun A outer s H E f c' hr => (pe_callX G_told_rows (takes_of rfl rfl rfl rfl) (fun _ _ _ _ h => h) (hr.mono (by first | decide | omega)) (pa_cons (pv 14) pa_nil)))) pa_nil)))
      (pss_cons (ps_expr (kbm (K := K) (id := "") rfl (pe_bm PySem.F.plainAttrs_list PySem.F.slot_list_append PySem.F.type_list_append mt_append (pv 12) (pa_cons (LamY.pe_lamcall3 (TT := LamY.TTried K (He.ga K "BadRow") "index" "told" "row") (k := 6) (Ng := N__law_tried) (by rfl) T.g__law_tried FT.kp lkT hcT bT S__law_tried rfl (.inl rfl) (LamY.tried_gives (i := 1) T.xf_BadRow T.xn_BadRow rfl T.g_BadRow (by decide) S__law_tried.nd rfl rfl (by decide) (by decide) (fun _ => rfl) (fun _ => by show 1 < 2; decide)) TB rfl (hr.mono (by first | decide | omega)) (LamX.lamS_by (sc := defScope s_law) (by decide +kernel)) rfl (fun _ _ _ _ _ => rfl) (fun A outer s H E f c' hr => (pe_callX G_is_balanced (takes_of rfl rfl rfl rfl) (fun _ _ _ _ h => h) (hr.mono (by first | decide | omega)) (pa_cons (pv 14) pa_nil)))) pa_nil))))
      (pss_cons (ps_expr (kbm (K := K) (id := "") rfl (pe_bm PySem.F.plainAttrs_list PySem.F.slot_list_append PySem.F.type_list_append mt_append (pv 12) (pa_cons (LamY.pe_lamcall3 (TT := LamY.TTried K (He.ga K "BadRow") "index" "told" "row") (k := 6) (Ng := N__law_tried) (by rfl) T.g__law_tried FT.kp lkT hcT bT S__law_tried rfl (.inl rfl) (LamY.tried_gives (i := 1) T.xf_BadRow T.xn_BadRow rfl T.g_BadRow (by decide) S__law_tried.nd rfl rfl (by decide) (by decide) (fun _ => rfl) (fun _ => by show 1 < 2; decide)) TB rfl (hr.mono (by first | decide | omega)) (LamX.lamS_by (sc := defScope s_law) (by decide +kernel)) rfl (fun _ _ _ _ _ => rfl) (fun A outer s H E f c' hr => (pe_callX G_told_rows (takes_of rfl rfl rfl rfl) (fun _ _ _ _ h => h) (hr.mono (by first | decide | omega)) (pa_cons (pv 8) pa_nil)))) pa_nil))))
      (pss_cons (ps_expr (kbm (K := K) (id := "") rfl (pe_bm PySem.F.plainAttrs_list PySem.F.slot_list_append PySem.F.type_list_append mt_append (pv 12) (pa_cons (LamY.pe_lamcall3 (TT := LamY.TTried K (He.ga K "BadRow") "index" "told" "row") (k := 6) (Ng := N__law_tried) (by rfl) T.g__law_tried FT.kp lkT hcT bT S__law_tried rfl (.inl rfl) (LamY.tried_gives (i := 1) T.xf_BadRow T.xn_BadRow rfl T.g_BadRow (by decide) S__law_tried.nd rfl rfl (by decide) (by decide) (fun _ => rfl) (fun _ => by show 1 < 2; decide)) TB rfl (hr.mono (by first | decide | omega)) (LamX.lamS_by (sc := defScope s_law) (by decide +kernel)) rfl (fun _ _ _ _ _ => rfl) (fun A outer s H E f c' hr => (pe_callX G_is_balanced (takes_of rfl rfl rfl rfl) (fun _ _ _ _ h => h) (hr.mono (by first | decide | omega)) (pa_cons (pv 8) pa_nil)))) pa_nil))))
      (pss_one (ps_if (pt_not (pt_val (pe_callF G__law_same (hr.mono (by first | decide | omega)) (pa_cons (pv 12) (pa_cons (pe_op op_cat (pe_op op_rep (pe_lst (pa_cons (pe_tup (pa_cons pe_str (pa_cons (pv 13) pa_nil))) pa_nil)) pe_int) (pe_op op_rep (pe_lst (pa_cons (pe_tup (pa_cons pe_str (pa_cons pe_int pa_nil))) pa_nil)) pe_int)) pa_nil))))) (pss_one (ps_ret pe_bl)) pss_nil)))))))))))))))))))
      (pss_one (ps_ret pe_bl))))), fun d Qd h => ?_⟩
  obtain ⟨ns, rfl, q⟩ := h
  have c9 : ∀ {n : Nat}, n ≤ 30 → n ≤ 100000 := fun h => by omega
  refine ws_seq <| ws_asgN <| en_lst <| ea_cons <| ew_non <| ea_cons <| ew_int <| ea_cons <| ew_tup <| ea_nil ⟨c9 (by show 0 ≤ 30; decide), ?_⟩
  refine ea_cons <| ew_tup <| ea_cons <| ew_str <| ea_cons <| ew_str <| ea_nil ⟨c9 (by show 2 ≤ 30; decide), ?_⟩
  refine ea_cons <| ew_tup <| ea_cons <| ew_str <| ea_cons <| ew_str <| ea_cons <| ew_int <| ea_cons <| ew_int <| ea_nil ⟨c9 (by show 4 ≤ 30; decide), ?_⟩
  refine ea_cons <| ew_tup <| ea_cons <| ew_str <| ea_cons <| ew_str <| ea_cons <| ew_int <| ea_nil ⟨c9 (by show 3 ≤ 30; decide), ?_⟩
  refine ea_cons <| ew_tup <| ea_cons <| ew_str <| ea_cons <| ew_str <| ea_cons <| ew_int <| ea_nil ⟨c9 (by show 3 ≤ 30; decide), ?_⟩
  refine ea_cons <| ew_str <| ea_cons <| ew_new <| en_dnewK <| ea_nil ⟨c9 (by show 9 ≤ 30; decide), fun p => ?_⟩
  refine ws_seq <| ws_drop <| ew_extend (a := p) rfl <| ew_new <| en_lst <| ea_cons <| ew_tup <| ea_cons <| ew_str <| ea_cons <| ew_str <| ea_cons <| ew_int <| ea_nil ⟨c9 (by show 3 ≤ 30; decide), ?_⟩
  refine ea_cons <| ew_tup <| ea_cons <| ew_str <| ea_cons <| ew_str <| ea_cons <| ew_bl <| ea_nil ⟨c9 (by show 3 ≤ 30; decide), ?_⟩
  refine ea_cons <| ew_tup <| ea_cons <| ew_str <| ea_cons <| ew_str <| ea_cons <| ew_str <| ea_nil ⟨c9 (by show 3 ≤ 30; decide), ?_⟩
  refine ea_cons <| ew_tup <| ea_cons <| ew_str <| ea_cons <| ew_str <| ea_cons <| ew_int <| ea_nil ⟨c9 (by show 3 ≤ 30; decide), ?_⟩
  refine ea_cons <| ew_tup <| ea_cons <| ew_int <| ea_cons <| ew_str <| ea_cons <| ew_int <| ea_nil ⟨c9 (by show 3 ≤ 30; decide), ?_⟩
  refine ea_nil ⟨c9 (by show 5 ≤ 30; decide), _, _, rfl, rfl, by show 9 + 5 < 90000; decide, ?_⟩
  refine ws_share (i := 1) (d := .lst oddL) rfl ?_
  refine ws_seq <| ws_for <| ei_range1 <| ea_cons <| ew_op <| ew_int <| ew_cb <| ea_cons <| ew_cb <| ea_cons <| ew_varT rfl <| ea_nil <| opa_len_scr <| ea_cons <| ew_int <| ea_nil <| opa_min <| op2_int <| ea_nil ⟨_, rfl, ?_, ?_, fun _ ρ => ∃ s2 s3 s4 s5 s6 s7 s8 s9 s10 s11 s12 s13 s14 : Sl, ρ = [.tab (.scr ns) Pt qLam, .sh (.lst oddL), s2, s3, s4, s5, s6, s7, s8, s9, s10, s11, s12, s13, s14, .un] ∧ s8.isOwn = false, ⟨_, _, _, _, _, _, _, _, _, _, _, _, _, rfl, rfl⟩, ?_, fun ρ' h => ?_⟩
  · split <;> omega
  · split <;> omega
  · rintro i d ρ' hd ⟨s2, s3, s4, s5, s6, s7, s8, s9, s10, s11, s12, s13, s14, rfl, h8⟩
    obtain ⟨j, rfl⟩ : ∃ j : Nat, d = .int (j : Nat) := by
      rw [List.getElem?_map] at hd
      obtain ⟨j, hj, e⟩ := Option.map_eq_some_iff.mp hd
      exact ⟨j, by rw [← e, Int.zero_add]⟩
    refine gw_name <| ws_seq <| ws_asgD <| en_callN <| ea_cons <| ew_varT rfl <| ea_cons <| ew_var rfl <| ea_nil ⟨ns, j, rfl, fun x y => ⟨x, y, 0, rfl, fun pd => ?_⟩⟩
    refine ws_seq <| ws_asg <| ew_callW rfl <| ea_cons <| ew_int <| ea_nil ⟨rfl, rfl, fun rs0 hl0 hg0 => gw_name ?_⟩
    refine ws_mid (fun ρ' => ∃ rs : List Rw, rs.length ≤ 16 ∧ (∀ r ∈ rs, GoodR r) ∧ ρ' = [.tab (.scr ns) Pt qLam, .sh (.lst oddL), .sh (.int (j : Nat)), .drw pd, .sh (.lst (rs.map rowT)), s5, s6, s7, s8, s9, s10, s11, s12, s13, s14, .un]) ?_ ?_
    · refine ws_if <| et_test <| ew_op <| ew_callW rfl <| ea_cons <| ew_int <| ea_nil ⟨rfl, _, rfl, by decide, by decide, fun m hm0 hm1 => ew_int <| op2_eq_int ⟨_, rfl, ite_b (fun _ => ?_) (fun _ => ws_next ⟨rs0, by omega, hg0, rfl⟩)⟩⟩
      exact ws_asg <| ew_callP <| ea_cons <| ew_var rfl <| ea_nil ⟨rs0, rfl, hl0, hg0, fun rs hl hg => gw_name ⟨rs, hl, hg, rfl⟩⟩
    rintro ρ' ⟨rs, hl, hg, rfl⟩
    refine ws_seq <| ws_asg <| ew_new <| en_lcMt rowT rs rowL <| ei_seq _ rfl <| ew_var rfl ⟨rfl, rfl, rfl, by omega, fun r hr => gv_name (by decide) <| ew_new <| en_cb <| ea_cons <| ew_var rfl <| ea_nil <| opn_list rfl ⟨rfl, rfl⟩, gw_name ?_⟩
    refine ws_seq <| ws_asgN <| en_dnewK fun ps => ?_
    refine ws_seq <| ws_for <| ei_seq (.lst (rs.map rowT)) rfl <| ew_var rfl ⟨rfl, fun i ρ => ∃ s7 s8 s9 : Sl, ρ = [.tab (.scr ns) Pt qLam, .sh (.lst oddL), .sh (.int (j : Nat)), .drw pd, .sh (.lst (rs.map rowT)), .sh (.lst (rs.map rowL)), .own ps (.dk (ilift (sumsT (rs.take i)))), s7, s8, s9, s10, s11, s12, s13, s14, .un] ∧ s8.isOwn = false, ⟨_, _, _, rfl, h8⟩, ?_, ?_⟩
    · rintro i y ρ' hy ⟨s7, s8, s9, rfl, h8⟩
      rw [List.getElem?_map] at hy
      obtain ⟨r, hr, rfl⟩ := Option.map_eq_some_iff.mp hy
      have hle : (ilift (sumsT (rs.take i))).length < 90000 := by
        rw [ilift_len]
        have := sumBy_len keyT amt (rs.take i)
        rw [List.length_take] at this
        unfold sumsT
        omega
      have e1 : sumsT (rs.take (i + 1)) = iput (sumsT (rs.take i)) (keyT r) (iget (sumsT (rs.take i)) (keyT r) + r.2.2) := by
        rw [List.take_add_one, hr]; exact sumBy_snoc keyT amt (rs.take i) r
      refine gw_tup rfl <| gws_cons <| gw_name <| gws_cons <| gw_name <| gws_cons <| gw_name <| gws_nil ?_
      refine ws_dput (a := ps) <| ew_op <| ew_get2 rfl <| ew_var rfl <| ew_int ⟨keyT r, _, rfl, rfl, ?_⟩
      rw [dget_ilift_getD]
      refine ew_var rfl <| op2_int ⟨⟨_, rfl⟩, ew_var rfl ⟨keyT r, _, rfl, rfl, hle, ?_⟩⟩
      rw [dput_ilift, ← e1]
      exact ⟨_, _, _, rfl, rfl⟩
    rintro ρ' ⟨s7, s8, s9, rfl, h8⟩
    rw [show rs.take (rs.map rowT).length = rs from List.take_of_length_le (by rw [List.length_map]; exact Nat.le_refl _)]
    have hln := sumBy_len keyT amt rs
    refine ws_share (i := 6) rfl <| ws_seq <| ws_asg <| ew_cb <| ea_cons <| ew_new <| en_lcDMt (fun k => kD k) ((sumsT rs).map (·.1)) (fun k => D.bl (decide (iget (sumsT rs) k = 0))) (i0 := 6) rfl rfl (by
      have w := wk_keys (K := K) (i := 6) (ps := ilift (sumsT rs))
      unfold ilift at w
      rw [List.map_map] at w
      rw [List.map_map]
      exact w) (by unfold ownFree ownFree; cases s8 <;> first | rfl | cases h8) (by rw [List.length_map]; unfold sumsT; omega) (fun k hk => ?_) <| ea_nil ?_
    · have hgt : dget (ilift (sumsT rs)) k = some (.int (iget (sumsT rs) k)) := dget_ilift_mem hk
      exact gv_name (by decide) <| ew_op <| ew_dgetV rfl <| ew_var rfl ⟨k, _, _, rfl, rfl, hgt, ew_int <| op2_eq_int ⟨rfl, rfl⟩⟩
    have ev : (((sumsT rs).map (·.1)).map fun k => decide (iget (sumsT rs) k = 0)).all id = evenB rs := by
      unfold evenB
      rw [List.map_map, List.all_map, Bool.eq_iff_iff, List.all_eq_true, List.all_eq_true]
      have nd := sumBy_nodup keyT amt rs
      have key : ∀ p ∈ sumsT rs, iget (sumsT rs) p.1 = p.2 := iget_mem nd
      constructor
      · intro h p hp
        have := h p hp
        rw [← key p hp]; exact this
      · intro h p hp
        have := h p hp
        rw [← key p hp] at this; exact this
    have e0 : (((sumsT rs).map (·.1)).map fun k => D.bl (decide (iget (sumsT rs) k = 0))) = (((sumsT rs).map (·.1)).map fun k => decide (iget (sumsT rs) k = 0)).map D.bl := by rw [List.map_map (g := D.bl)]; rfl
    rw [e0]
    refine opa_all ?_
    rw [ev]
    refine gw_name ?_
    have okH : Ok (.lst (rs.map rowL)) := .lst (by rw [List.length_map]; omega) (mem_map_all fun r hr => okL_row (hg r hr))
    have okHt : Ok (.tup (rs.map rowL)) := .tup (by rw [List.length_map]; omega) (mem_map_all fun r hr => okL_row (hg r hr))
    have fbH : firstBad (.lst (rs.map rowL)) = none := first_none rfl (mem_map_all fun r hr => goodL_row (hg r hr))
    have fbHt : firstBad (.tup (rs.map rowL)) = none := first_none rfl (mem_map_all fun r hr => goodL_row (hg r hr))
    have rwH : rowsOfD (.lst (rs.map rowL)) = rs := rows_of (f := rowL) (fun _ => rfl) rfl
    have rwHt : rowsOfD (.tup (rs.map rowL)) = rs := rows_of (f := rowL) (fun _ => rfl) rfl
    refine ws_seq <| ws_for <| ei_range1 <| ea_cons <| ew_int <| ea_nil ⟨2, rfl, by decide, by decide, fun _ ρ => ∃ s11 s12 : Sl, ρ = [.tab (.scr ns) Pt qLam, .sh (.lst oddL), .sh (.int (j : Nat)), .drw pd, .sh (.lst (rs.map rowT)), .sh (.lst (rs.map rowL)), .sh (.dk (ilift (sumsT rs))), s7, s8, s9, .sh (.bl (evenB rs)), s11, s12, s13, s14, .un], ⟨_, _, rfl⟩, ?_, ?_⟩
    · rintro i2 d2 ρ' hd2 ⟨s11, s12, rfl⟩
      refine gw_name <| ws_seq <| ws_asgN <| en_callQN <| ea_cons <| ew_var rfl <| ea_nil ⟨_, rfl, okH, ?_⟩
      rw [fbH, rwH]
      intro pf
      refine ws_seq <| ws_ifn (C := True) (et_peek <| et_not <| et_B <| ew_callP <| ea_cons <| ew_new <| en_lst <| ea_cons <| ew_var rfl <| ea_cons <| ew_callQ <| ea_cons <| ew_cb <| ea_cons <| ew_var rfl <| ea_nil <| opa_tuple rfl <| ea_nil ⟨_, rfl, okHt, ?_⟩) fun _ => ?_
      · rw [fbHt, rwHt]
        exact ea_nil ⟨c9 (by show 2 ≤ 30; decide), ea_cons <| ew_new <| en_lst <| ea_cons <| ew_callP <| ea_cons <| ew_var rfl <| ea_nil ⟨rs, rfl, by omega, ea_cons <| ew_var rfl <| ea_nil ⟨c9 (by show 2 ≤ 30; decide), ea_nil ⟨.lst [addedD rs, .bl (evenB rs)], rfl, .lst (by show 2 ≤ 1000; decide) (mem2 (Pl.up (addedD_pl rs (by omega))) (.bl _)), _, rfl, rfl, iteF ⟨rfl, trivial⟩⟩⟩⟩⟩
      · refine ws_drop <| ew_append (a := pf) rfl <| ew_str ⟨_, rfl, ?_, _, _, rfl⟩
        have := addedD_pl rs (by omega)
        unfold addedD at this
        cases this with | lst h1 h2 => omega
    rintro ρ' ⟨s11, s12, rfl⟩
    refine ws_seq <| ws_ifn (C := True) (et_test <| ew_op <| ew_var rfl <| ew_new <| en_lcMt rowT rs rowL <| ei_seq _ rfl <| ew_var rfl ⟨rfl, rfl, rfl, by omega, fun r hr => gv_name (by decide) <| ew_new <| en_cb <| ea_cons <| ew_var rfl <| ea_nil <| opn_list rfl ⟨rfl, rfl⟩, op2_neSelf (n := 2) (.lst (mem_map_all fun r hr => pyL_row (hg r hr))) (by decide) ⟨_, rfl, iteF ⟨rfl, trivial⟩⟩⟩) fun _ => ?_
    refine ws_seq <| ws_asg <| ew_callW rfl <| ea_cons <| ew_op <| ew_cb <| ea_cons <| ew_var rfl <| ea_nil <| opa_len rfl <| ew_int <| op2_int <| ea_nil ⟨rfl, _, rfl, by omega, by rw [List.length_map]; omega, fun m hm0 hm1 => gw_name ?_⟩
    rw [List.length_map] at hm1
    obtain ⟨n, rfl⟩ : ∃ n : Nat, m = n := ⟨m.toNat, by omega⟩
    have hn : n ≤ rs.length := by omega
    refine ws_seq <| ws_asg <| ew_new <| en_cat <| ew_new <| en_cat <| ew_new <| en_cat <| ew_new <| en_slL <| ew_var rfl <| eo_none <| eo_some <| ew_var rfl ⟨_, rfl, _, rfl, ?_⟩
    rw [cut_to]
    have l0 : ((rs.map rowT).take n).length ≤ 16 := by rw [List.length_take, List.length_map]; omega
    refine ew_new <| en_lst <| ea_cons <| ew_callW rfl <| ea_cons <| ew_var rfl <| ea_nil ⟨rfl, _, _, rfl, rfl, by show 0 < 14; decide, by show 14 ≤ 100000; decide, fun o1 ho1 => ea_nil ⟨c9 (by show 1 ≤ 30; decide), _, _, rfl, rfl, by show _ + 1 ≤ 90000; omega, ?_⟩⟩
    refine ew_new <| en_slL <| ew_var rfl <| eo_some <| ew_var rfl ⟨_, rfl, eo_none ⟨_, rfl, _, _, rfl, rfl, ?_, ?_⟩⟩
    · rw [cut_from _ _ (by rw [List.length_map]; exact hn), List.length_append, List.length_drop, List.length_map]
      show _ + 1 + _ ≤ 90000
      omega
    rw [cut_from _ _ (by rw [List.length_map]; exact hn)]
    have l1 : ((rs.map rowT).drop n).length ≤ 16 := by rw [List.length_drop, List.length_map]; omega
    refine ew_new <| en_lst <| ea_cons <| ew_callW rfl <| ea_cons <| ew_var rfl <| ea_nil ⟨rfl, _, _, rfl, rfl, by show 0 < 14; decide, by show 14 ≤ 100000; decide, fun o2 ho2 => ea_nil ⟨c9 (by show 1 ≤ 30; decide), _, _, rfl, rfl, by rw [List.length_append, List.length_append]; show _ + 1 + _ + 1 ≤ 90000; omega, gw_name ?_⟩⟩
    have eb : (rs.map rowT).take n ++ [o1] ++ (rs.map rowT).drop n ++ [o2] = (rs.map rowT).take n ++ o1 :: ((rs.map rowT).drop n ++ [o2]) := by simp
    rw [eb]
    have okr : ∀ d ∈ rs.map rowT, Ok d := mem_map_all fun r hr => ok_row (hg r hr)
    have okB : Ok (.lst ((rs.map rowT).take n ++ o1 :: ((rs.map rowT).drop n ++ [o2]))) := by
      refine .lst ?_ (mema (fun d hd => okr d (List.mem_of_mem_take hd)) (memc (odd_ok o1 ho1) (mema (fun d hd => okr d (List.mem_of_mem_drop hd)) (mem1 (odd_ok o2 ho2)))))
      rw [List.length_append, List.length_cons, List.length_append]
      show _ + (_ + 1 + 1) ≤ 1000
      omega
    have fbB : firstBad (.lst ((rs.map rowT).take n ++ o1 :: ((rs.map rowT).drop n ++ [o2]))) = some n := by
      rw [first_at (fun d hd => mem_map_all (C := fun d => isRowD d = true) (fun r hr => good_row (hg r hr)) d (List.mem_of_mem_take hd)) (odd_no o1 ho1), List.length_take, List.length_map, Nat.min_eq_left hn]
    generalize (rs.map rowT).take n ++ o1 :: ((rs.map rowT).drop n ++ [o2]) = bad at okB fbB ⊢
    refine ws_seq <| ws_asg <| ew_callW rfl <| ea_cons <| ew_new <| en_lst <| ea_cons <| ew_non <| ea_cons <| ew_int <| ea_cons <| ew_str <| ea_cons <| ew_new <| en_dnewK <| ea_cons <| ew_bl <| ea_nil ⟨c9 (by show 5 ≤ 30; decide), ea_nil ⟨rfl, _, _, rfl, rfl, by show 0 < 5; decide, by show 5 ≤ 100000; decide, fun th hth => gw_name ?_⟩⟩
    have okT : Ok th := by
      revert th
      exact memc .non <| memc (.int _) <| memc (okS (by decide +kernel)) <| memc (.dk (by show 0 ≤ 1000; decide)) <| memc (.bl _) memn
    have fbT : firstBad th = some 0 := by
      clear okT
      revert th
      exact memc rfl <| memc rfl <| memc rfl <| memc rfl <| memc rfl memn
    refine ws_seq <| ws_asgN <| en_lst <| ea_cons <| ew_lam (i := 0) (d0 := .scr ns) (q := qLam) rfl <| el_tried T.xm_BadRow fun W => ex_callN <| ea_cons <| ew_var rfl <| ea_nil ⟨_, rfl, okB, ?_⟩
    rw [fbB]
    refine ⟨rfl, rfl, ea_nil ⟨c9 (by show 1 ≤ 30; decide), fun pf => ?_⟩⟩
    refine ws_seq <| ws_drop <| ew_append (a := pf) rfl <| ew_lam (i := 0) (d0 := .scr ns) (q := qLam) rfl <| el_tried T.xm_BadRow fun W => ex_call <| ea_cons <| ew_var rfl <| ea_nil ⟨_, rfl, okB, ?_⟩
    rw [fbB]
    refine ⟨rfl, rfl, _, rfl, by show 1 < 90000; decide, ?_⟩
    refine ws_seq <| ws_drop <| ew_append (a := pf) rfl <| ew_lam (i := 0) (d0 := .scr ns) (q := qLam) rfl <| el_tried T.xm_BadRow fun W => ex_callN <| ea_cons <| ew_var rfl <| ea_nil ⟨_, rfl, okT, ?_⟩
    rw [fbT]
    refine ⟨rfl, rfl, _, rfl, by show 2 < 90000; decide, ?_⟩
    refine ws_seq <| ws_drop <| ew_append (a := pf) rfl <| ew_lam (i := 0) (d0 := .scr ns) (q := qLam) rfl <| el_tried T.xm_BadRow fun W => ex_call <| ea_cons <| ew_var rfl <| ea_nil ⟨_, rfl, okT, ?_⟩
    rw [fbT]
    refine ⟨rfl, rfl, _, rfl, by show 3 < 90000; decide, ?_⟩
    have p2 : ∀ {x y : D} {n : Nat}, Pl n x → Pl n y → Pl (n + 1) (.tup [x, y]) := fun h h' => .tup (by show 2 ≤ 1000; decide) (mem2 h h')
    refine ws_ifn (C := True) (et_peek <| et_not <| et_B <| ew_callP <| ea_cons <| ew_var rfl <| ea_cons <| ew_new <| en_cat <| ew_new <| en_rep <| ew_new <| en_lst <| ea_cons <| ew_tup <| ea_cons <| ew_str <| ea_cons <| ew_var rfl <| ea_nil ⟨c9 (by show 2 ≤ 30; decide), ea_nil ⟨c9 (by show 1 ≤ 30; decide), ew_int ⟨_, _, rfl, rfl, by decide, by decide, by show 1 * 2 ≤ 90000; decide, ?_⟩⟩⟩) fun _ => ?_
    · refine ew_new <| en_rep <| ew_new <| en_lst <| ea_cons <| ew_tup <| ea_cons <| ew_str <| ea_cons <| ew_int <| ea_nil ⟨c9 (by show 2 ≤ 30; decide), ea_nil ⟨c9 (by show 1 ≤ 30; decide), ew_int ⟨_, _, rfl, rfl, by decide, by decide, by show 1 * 2 ≤ 90000; decide, ?_⟩⟩⟩
      refine ⟨_, _, rfl, rfl, by show 2 + 2 ≤ 90000; decide, ea_nil ⟨.lst [.tup [.str "row", .int (n : Nat)], .tup [.str "row", .int (n : Nat)], .tup [.str "row", .int (0 : Nat)], .tup [.str "row", .int (0 : Nat)]], rfl, .lst (by show 4 ≤ 1000; decide) ?_, _, rfl, rfl, iteF ⟨rfl, trivial⟩⟩⟩
      exact memc (p2 (n := 2) (.str _) (.int _)) <| memc (p2 (.str _) (.int _)) <| memc (p2 (.str _) (.int _)) <| memc (p2 (.str _) (.int _)) memn
    · refine ⟨_, _, _, _, _, _, _, _, _, _, _, _, _, rfl, rfl⟩
  · exact ws_ret <| ew_bl q
end
end K25

set_option Elab.async false
set_option linter.all false
set_option maxRecDepth 100000
set_option maxHeartbeats 0
namespace HD
open PySem PySem.Spec PyProof.Rows L2
def top (i : Nat) : Stmt := PySem.Challenge.pw_seatroads_k25_rows_told.main.body.getD i (.Pass ⟨0, 0, 0, 0⟩)
def inCls (i j : Nat) : Stmt := match top i with
  | .ClassDef _ _ _ b _ _ _ _ _ _ _ => b.getD j (.Pass ⟨0, 0, 0, 0⟩)
  | _ => .Pass ⟨0, 0, 0, 0⟩

abbrev s_is_list : Stmt := (top 6)
def d_is_list : He.DefD := ⟨("is_list", none), "is_list", "is_list", defArgs s_is_list, defBody s_is_list, defScope s_is_list, [], []⟩
abbrev s_is_name : Stmt := (top 7)
def d_is_name : He.DefD := ⟨("is_name", none), "is_name", "is_name", defArgs s_is_name, defBody s_is_name, defScope s_is_name, [], []⟩
abbrev s_is_whole : Stmt := (top 8)
def d_is_whole : He.DefD := ⟨("is_whole", none), "is_whole", "is_whole", defArgs s_is_whole, defBody s_is_whole, defScope s_is_whole, [], []⟩
abbrev s_is_account : Stmt := (top 12)
def d_is_account : He.DefD := ⟨("is_account", none), "is_account", "is_account", defArgs s_is_account, defBody s_is_account, defScope s_is_account, [], []⟩
abbrev s_is_row : Stmt := (top 13)
def d_is_row : He.DefD := ⟨("is_row", none), "is_row", "is_row", defArgs s_is_row, defBody s_is_row, defScope s_is_row, [], []⟩
abbrev s_check_rows : Stmt := (top 14)
def d_check_rows : He.DefD := ⟨("check_rows", none), "check_rows", "check_rows", defArgs s_check_rows, defBody s_check_rows, defScope s_check_rows, [], []⟩
abbrev s_added : Stmt := (top 15)
def d_added : He.DefD := ⟨("added", none), "added", "added", defArgs s_added, defBody s_added, defScope s_added, [], []⟩
abbrev s_is_even : Stmt := (top 16)
def d_is_even : He.DefD := ⟨("is_even", none), "is_even", "is_even", defArgs s_is_even, defBody s_is_even, defScope s_is_even, [], []⟩
abbrev s_told_rows : Stmt := (top 17)
def d_told_rows : He.DefD := ⟨("told_rows", none), "told_rows", "told_rows", defArgs s_told_rows, defBody s_told_rows, defScope s_told_rows, [], []⟩
abbrev s_is_balanced : Stmt := (top 18)
def d_is_balanced : He.DefD := ⟨("is_balanced", none), "is_balanced", "is_balanced", defArgs s_is_balanced, defBody s_is_balanced, defScope s_is_balanced, [], []⟩
abbrev s__law_source : Stmt := (top 20)
def d__law_source : He.DefD := ⟨("_law_source", none), "_law_source", "_law_source", defArgs s__law_source, defBody s__law_source, defScope s__law_source, [], []⟩
abbrev s__law_draw : Stmt := (top 21)
def d__law_draw : He.DefD := ⟨("_law_draw", none), "_law_draw", "_law_draw", defArgs s__law_draw, defBody s__law_draw, defScope s__law_draw, [], []⟩
abbrev s__law_pick : Stmt := (top 22)
def d__law_pick : He.DefD := ⟨("_law_pick", none), "_law_pick", "_law_pick", defArgs s__law_pick, defBody s__law_pick, defScope s__law_pick, [], []⟩
abbrev s__law_same : Stmt := (top 23)
def d__law_same : He.DefD := ⟨("_law_same", none), "_law_same", "_law_same", defArgs s__law_same, defBody s__law_same, defScope s__law_same, [], []⟩
abbrev s__law_some_rows : Stmt := (top 24)
def d__law_some_rows : He.DefD := ⟨("_law_some_rows", none), "_law_some_rows", "_law_some_rows", defArgs s__law_some_rows, defBody s__law_some_rows, defScope s__law_some_rows, [], []⟩
abbrev s__law_sums : Stmt := (top 25)
def d__law_sums : He.DefD := ⟨("_law_sums", none), "_law_sums", "_law_sums", defArgs s__law_sums, defBody s__law_sums, defScope s__law_sums, [], []⟩
abbrev s__law_told : Stmt := (top 26)
def d__law_told : He.DefD := ⟨("_law_told", none), "_law_told", "_law_told", defArgs s__law_told, defBody s__law_told, defScope s__law_told, [], []⟩
abbrev s__law_balanced : Stmt := (top 27)
def d__law_balanced : He.DefD := ⟨("_law_balanced", none), "_law_balanced", "_law_balanced", defArgs s__law_balanced, defBody s__law_balanced, defScope s__law_balanced, [], []⟩
abbrev s__law_tried : Stmt := (top 28)
def d__law_tried : He.DefD := ⟨("_law_tried", none), "_law_tried", "_law_tried", defArgs s__law_tried, defBody s__law_tried, defScope s__law_tried, [], []⟩
abbrev s_law : Stmt := (top 29)
def d_law : He.DefD := ⟨("law", none), "law", "law", defArgs s_law, defBody s_law, defScope s_law, [], []⟩
def fn : List He.DefD := [d_is_list, d_is_name, d_is_whole, d_is_account, d_is_row, d_check_rows, d_added, d_is_even, d_told_rows, d_is_balanced, d__law_source, d__law_draw, d__law_pick, d__law_same, d__law_some_rows, d__law_sums, d__law_told, d__law_balanced, d__law_tried, d_law]
def fa : List He.Fa := [.glo "is_list",
  .glo "is_name",
  .glo "is_whole",
  .glo "is_account",
  .glo "is_row",
  .glo "check_rows",
  .glo "added",
  .glo "is_even",
  .glo "told_rows",
  .glo "is_balanced",
  .glo "_law_source",
  .glo "_law_draw",
  .glo "_law_pick",
  .glo "_law_same",
  .glo "_law_some_rows",
  .glo "_law_sums",
  .glo "_law_told",
  .glo "_law_balanced",
  .glo "_law_tried",
  .glo "law",
  .glo "OfficeError",
  .glo "BadRow",
  .free "ValueError",
  .free "all",
  .free "bool",
  .free "dict",
  .free "enumerate",
  .free "int",
  .free "isinstance",
  .free "len",
  .free "list",
  .free "min",
  .free "range",
  .free "sorted",
  .free "str",
  .free "super",
  .free "tuple",
  .free "zip",
  .str "SIGNS" "abcdefghijklmnopqrstuvwxyz0123456789",
  .int "LONGEST" 8,
  .str "TILL" "the-till",
  .str "POOL" "the-pool"]
def ex (K : PySem.W.Frag) : Bool := EXS.supB K PySem.Challenge.pw_seatroads_k25_rows_told "BadRow" "index" "index" && (xfB K (He.ga K "BadRow") && (decide (PySem.W.exmOne K (.ref (He.ga K "BadRow")) (.ref (He.ga K "BadRow")) = some true) && (He.eqO (PySem.W.findIn K (.ref (He.ga K "BadRow")) "index") (some none))))
def loose : List Str := (["__name__", "OfficeError", "BadRow", "SIGNS", "LONGEST", "is_list", "is_name", "is_whole", "TILL", "POOL", "is_account", "is_row", "check_rows", "added", "is_even", "told_rows", "is_balanced", "_law_source", "_law_draw", "_law_pick", "_law_same", "_law_some_rows", "_law_sums", "_law_told", "_law_balanced", "_law_tried"] : List Str)
def tf : List He.Defn := [("law", none)]
abbrev R : PySem.W.OpenRow := PySem.W.OpenLaw.row PySem.Challenge.rw_seatroads_k25_rows_told
abbrev hk : PySem.W.Hook := He.hookXS 4 fa fn tf ex
def ob (s : PySem.W.SharedT) : He.AlX := He.obsXS 4 fa fn tf ex (HandSHeadRun.getT s)
theorem ob_eq (s : PySem.W.SharedT) : ob s = hk.obs s.abs := He.obsXS_eq (HandSHeadRun.getT_eq s)
theorem run (w : World) : HandSHeadRun.RunEq R (PySem.W.view R.prog [29]) hk ob 4000 loose w := by
  intro os
  kernel_rfl
end HD

set_option Elab.async false
set_option linter.all false
set_option maxRecDepth 100000
set_option maxHeartbeats 0
namespace K25
open PySem PySem.Spec PyProof.Rows L2 DL
theorem factsTX {w : World} {K : PySem.W.Frag} {h : Heap} {mg : Str → Option Value} (X : K.In h) (G : h.Ns mainGlobals mg) (c : He.SaysX HD.fa HD.fn [] HD.tf HD.ex w h K) : TX PySem.Challenge.pw_seatroads_k25_rows_told K mg := by
  have more := c.more
  simp only [HD.ex, Bool.and_eq_true] at more
  exact {
    n_ValueError := He.free_ok X G (c.t.d.fact 22 (f := .free "ValueError") rfl)
    n_all := He.free_ok X G (c.t.d.fact 23 (f := .free "all") rfl)
    n_bool := He.free_ok X G (c.t.d.fact 24 (f := .free "bool") rfl)
    n_dict := He.free_ok X G (c.t.d.fact 25 (f := .free "dict") rfl)
    n_enumerate := He.free_ok X G (c.t.d.fact 26 (f := .free "enumerate") rfl)
    n_int := He.free_ok X G (c.t.d.fact 27 (f := .free "int") rfl)
    n_isinstance := He.free_ok X G (c.t.d.fact 28 (f := .free "isinstance") rfl)
    n_len := He.free_ok X G (c.t.d.fact 29 (f := .free "len") rfl)
    n_list := He.free_ok X G (c.t.d.fact 30 (f := .free "list") rfl)
    n_min := He.free_ok X G (c.t.d.fact 31 (f := .free "min") rfl)
    n_range := He.free_ok X G (c.t.d.fact 32 (f := .free "range") rfl)
    n_sorted := He.free_ok X G (c.t.d.fact 33 (f := .free "sorted") rfl)
    n_str := He.free_ok X G (c.t.d.fact 34 (f := .free "str") rfl)
    n_super := He.free_ok X G (c.t.d.fact 35 (f := .free "super") rfl)
    n_tuple := He.free_ok X G (c.t.d.fact 36 (f := .free "tuple") rfl)
    n_zip := He.free_ok X G (c.t.d.fact 37 (f := .free "zip") rfl)
    g_is_list := He.glo_ok X G (c.t.d.fact 0 (f := .glo "is_list") rfl)
    g_is_name := He.glo_ok X G (c.t.d.fact 1 (f := .glo "is_name") rfl)
    g_is_whole := He.glo_ok X G (c.t.d.fact 2 (f := .glo "is_whole") rfl)
    g_is_account := He.glo_ok X G (c.t.d.fact 3 (f := .glo "is_account") rfl)
    g_is_row := He.glo_ok X G (c.t.d.fact 4 (f := .glo "is_row") rfl)
    g_check_rows := He.glo_ok X G (c.t.d.fact 5 (f := .glo "check_rows") rfl)
    g_added := He.glo_ok X G (c.t.d.fact 6 (f := .glo "added") rfl)
    g_is_even := He.glo_ok X G (c.t.d.fact 7 (f := .glo "is_even") rfl)
    g_told_rows := He.glo_ok X G (c.t.d.fact 8 (f := .glo "told_rows") rfl)
    g_is_balanced := He.glo_ok X G (c.t.d.fact 9 (f := .glo "is_balanced") rfl)
    g__law_source := He.glo_ok X G (c.t.d.fact 10 (f := .glo "_law_source") rfl)
    g__law_draw := He.glo_ok X G (c.t.d.fact 11 (f := .glo "_law_draw") rfl)
    g__law_pick := He.glo_ok X G (c.t.d.fact 12 (f := .glo "_law_pick") rfl)
    g__law_same := He.glo_ok X G (c.t.d.fact 13 (f := .glo "_law_same") rfl)
    g__law_some_rows := He.glo_ok X G (c.t.d.fact 14 (f := .glo "_law_some_rows") rfl)
    g__law_sums := He.glo_ok X G (c.t.d.fact 15 (f := .glo "_law_sums") rfl)
    g__law_told := He.glo_ok X G (c.t.d.fact 16 (f := .glo "_law_told") rfl)
    g__law_balanced := He.glo_ok X G (c.t.d.fact 17 (f := .glo "_law_balanced") rfl)
    g__law_tried := He.glo_ok X G (c.t.d.fact 18 (f := .glo "_law_tried") rfl)
    g_law := He.glo_ok X G (c.t.d.fact 19 (f := .glo "law") rfl)
    g_OfficeError := He.glo_ok X G (c.t.d.fact 20 (f := .glo "OfficeError") rfl)
    g_BadRow := He.glo_ok X G (c.t.d.fact 21 (f := .glo "BadRow") rfl)
    S_BadRow := EXS.supB_ok (fun _ _ _ _ _ _ _ _ _ _ _ _ _ _ _ _ => rfl) more.1
    xf_BadRow := xfB_ok more.2.1
    xm_BadRow := of_decide_eq_true more.2.2.1
    xn_BadRow := He.eqO_ok more.2.2.2
    c_SIGNS := He.str_ok X G (c.t.d.fact 38 (f := .str "SIGNS" "abcdefghijklmnopqrstuvwxyz0123456789") rfl)
    c_LONGEST := He.int_ok X G (c.t.d.fact 39 (f := .int "LONGEST" 8) rfl)
    c_TILL := He.str_ok X G (c.t.d.fact 40 (f := .str "TILL" "the-till") rfl)
    c_POOL := He.str_ok X G (c.t.d.fact 41 (f := .str "POOL" "the-pool") rfl)
    F_is_list := c.t.d.def_ 0 (d := HD.d_is_list) rfl
    F_is_name := c.t.d.def_ 1 (d := HD.d_is_name) rfl
    F_is_whole := c.t.d.def_ 2 (d := HD.d_is_whole) rfl
    F_is_account := c.t.d.def_ 3 (d := HD.d_is_account) rfl
    F_is_row := c.t.d.def_ 4 (d := HD.d_is_row) rfl
    F_check_rows := c.t.d.def_ 5 (d := HD.d_check_rows) rfl
    F_added := c.t.d.def_ 6 (d := HD.d_added) rfl
    F_is_even := c.t.d.def_ 7 (d := HD.d_is_even) rfl
    F_told_rows := c.t.d.def_ 8 (d := HD.d_told_rows) rfl
    F_is_balanced := c.t.d.def_ 9 (d := HD.d_is_balanced) rfl
    F__law_source := c.t.d.def_ 10 (d := HD.d__law_source) rfl
    F__law_draw := c.t.d.def_ 11 (d := HD.d__law_draw) rfl
    F__law_pick := c.t.d.def_ 12 (d := HD.d__law_pick) rfl
    F__law_same := c.t.d.def_ 13 (d := HD.d__law_same) rfl
    F__law_some_rows := c.t.d.def_ 14 (d := HD.d__law_some_rows) rfl
    F__law_sums := c.t.d.def_ 15 (d := HD.d__law_sums) rfl
    F__law_told := c.t.d.def_ 16 (d := HD.d__law_told) rfl
    F__law_balanced := c.t.d.def_ 17 (d := HD.d__law_balanced) rfl
    F__law_tried := c.t.d.def_ 18 (d := HD.d__law_tried) rfl
    F_law := c.t.d.def_ 19 (d := HD.d_law) rfl }
end K25
open PySem PySem.W PySem.Calls PyProof.Rows
theorem PySem.Challenge.cw_seatroads_k25_rows_told_holds : PySem.Challenge.rw_seatroads_k25_rows_told.Holds := by
  w_on; o_law
  refine HandSHeadRun.head_any (r := OpenLaw.row PySem.Challenge.rw_seatroads_k25_rows_told) (q := view (OpenLaw.row PySem.Challenge.rw_seatroads_k25_rows_told).prog [29]) (H := HD.hk) (ob := HD.ob) (M := 4000) (loose := HD.loose) (d := HandSHeadRun.topDef (OpenLaw.row PySem.Challenge.rw_seatroads_k25_rows_told).prog 29) (kwd := []) HD.ob_eq
    (by kernel_rfl) (fun s => by kernel_rfl) HD.run (by kernel_rfl) (by kernel_rfl) (by kernel_rfl) (by rfl) (by first | assumption | decide +kernel) (by decide +kernel) ⟨rfl, rfl, rfl, rfl, rfl, by decide +kernel⟩ ?hw ?hc
  case hw => w_witness2
  case hc =>
    refine LamX.walk_ofTsE (l := PySem.Challenge.rw_seatroads_k25_rows_told) (n := 63) (k := 9) (x := "_law_script") (CX := fun _ => L2.CX0) rfl (by decide) (by kernel_rfl) ⟨rfl, by decide, by decide⟩ ?F (fun _ _ _ _ _ z => z)
    intro w mg fa h Y G hmg0
    obtain ⟨K, KX, c⟩ := Y
    have hmg : mg ("law" : PySem.Str) = some (.ref fa) := by
      have e : (HandSHeadRun.topDef (OpenLaw.row PySem.Challenge.rw_seatroads_k25_rows_told).prog 29).name = ("law" : PySem.Str) := by kernel_rfl
      rw [← e]
      exact hmg0
    have T := K25.factsTX KX G c
    obtain ⟨fd, F⟩ := T.F_law
    have e := hmg.symm.trans T.g_law
    cases e
    have b := L2.FunD.bindsA (ps := ["_law_script"]) F fun _ _ _ _ _ _ us hl => match us, hl with | [_], _ => rfl
    have hcode : fd.code = .ref (He.cT K ("law", none)).1 := by
      obtain ⟨oc, od, dV, kV, doc, pm, an, cdv, ct, osl, rfl, lk, hcd, _, _⟩ := F.ex
      obtain ⟨c0, rfl⟩ := He.codeIn_ref hcd
      have := He.codeOf_eq (p := ("law", none)) lk rfl
      show Value.ref c0 = .ref (He.codeOf K ("law", none))
      rw [this]
    have one : ∀ {C : PySem.Addr × PySem.Addr → Prop}, C (He.cT K ("law", none)) → ∀ p ∈ [He.cT K ("law", none)], C p := fun h p hp => by rw [List.mem_singleton.mp hp]; exact h
    have hm : (("law", none) : He.Defn) ∈ HD.tf := List.mem_singleton.mpr rfl
    exact ⟨K, KX, fd, [He.cT K ("law", none)], DL.spT K (He.cT K ("law", none)).2 K25.qLam K25.TLaw, one (c.empty _ hm), one (c.out _ hm), one (PySem.W.codeHd_of_K KX (c.hd _ hm)), fun s v => b s [v] rfl, fun H a ns hl _ hH hS => DL.spT_start (hH _ (List.mem_singleton.mpr rfl)) hS ⟨ns, rfl, rfl⟩, fun base _ _ TB => K25.ok_law F T hcode (TB _ (List.mem_singleton.mpr rfl))⟩

