import PyProof.Rows.All
import Wide.All
import OpenK.AllK
import Wide.FinOn
import KE.KStateDown
import HandS.ForMost
import HandS.More
import HandS.WordsExc
import HandS.Defaults
import HandS.Evl
import HandS.Flow
import HandS.IsInst
import HandS.Strs
import HandS.HeadHook1
import HandS.TupAny
import HandS.Deep
import KE.GoesEnum
import HandS.NoneIn
import HandS.Style
import HandS.Sort
import HandS.DictComp
import PySem.Challenge.RW_seatroads_k01_events_known
import HandS.Head0
import HandS.Head1
import HandS.Head2
import HandS.HeadEnd
import HandS.HeadHook2
import HandS.HeadHook3
import HandS.HeadHook4
set_option Elab.async false
set_option linter.all false
set_option maxRecDepth 100000
namespace DL
open PySem L2

/-- plain data -/
inductive D where
  | non | bl (b : Bool) | int (i : Int) | str (s : Str) | lst (xs : List D) | tup (xs : List D)
  | dk (kvs : List (Key × D)) | dt (kvs : List (List Key × D)) | ins (C : Str) (fs : List (Str × D)) | scr (ns : List Int)

mutual
/-- the value v stands for the data d over the heap H -/
inductive Rep (K : PySem.W.Frag) (H : Hp) : V → D → Prop
  | non : Rep K H .non .non
  | bl (b : Bool) : Rep K H (.bl b) (.bl b)
  | int (i : Int) : Rep K H (.int i) (.int i)
  | str (s : Str) : Rep K H (.str s) (.str s)
  | lst {a : Addr} {vs : List V} {ds : List D} : H a = some (.lst vs) → Reps K H vs ds → Rep K H (.ref a) (.lst ds)
  | tup {a : Addr} {vs : List V} {ds : List D} : SqT K H a vs → Reps K H vs ds → Rep K H (.ref a) (.tup ds)
  | dk {a : Addr} {kvs : List (Key × V)} {ps : List (Key × D)} : Rd H a (.dK kvs) → kvs.map (·.1) = ps.map (·.1) → Reps K H (kvs.map (·.2)) (ps.map (·.2)) → Rep K H (.ref a) (.dk ps)
  | dt {a : Addr} {kvs : List (List Key × V)} {ps : List (List Key × D)} : Rd H a (.dT kvs) → kvs.map (·.1) = ps.map (·.1) → Reps K H (kvs.map (·.2)) (ps.map (·.2)) → Rep K H (.ref a) (.dt ps)
  | ins {a dx : Addr} {C : Str} {fs : List (Str × V)} {ps : List (Str × D)} : H a = some (.ins (He.ga K C) dx fs) → fs.map (·.1) = ps.map (·.1) → Reps K H (fs.map (·.2)) (ps.map (·.2)) → Rep K H (.ref a) (.ins C ps)
  | scr {a : Addr} {ns : List Int} : SqL K H a (ns.map V.int) → Rep K H (.ref a) (.scr ns)
inductive Reps (K : PySem.W.Frag) (H : Hp) : List V → List D → Prop
  | nil : Reps K H [] []
  | cons {v : V} {vs : List V} {d : D} {ds : List D} : Rep K H v d → Reps K H vs ds → Reps K H (v :: vs) (d :: ds)
end

/-- what stood stands -/
def Ex (H H' : Hp) : Prop := ∀ a o, H a = some o → H' a = some o
theorem Ex.refl (H : Hp) : Ex H H := fun _ _ h => h
theorem Ex.trans {H H1 H2 : Hp} (a : Ex H H1) (b : Ex H1 H2) : Ex H H2 := fun x o h => b x o (a x o h)
theorem Ex.new {H : Hp} {p : Addr} {o : HO} (h : H p = none) : Ex H (upd H p o) := fun a u e => by
  rw [upd_ne (ne_of_none e h)]
  exact e
theorem Ex.upd {G H : Hp} {p : Addr} {o : HO} (e : Ex G H) : Ex (upd G p o) (upd H p o) := fun a u q => by
  by_cases h : a = p
  · subst h; rw [upd_same] at q ⊢; exact q
  · rw [upd_ne h] at q ⊢; exact e a u q
theorem Ex.none {G H : Hp} (e : Ex G H) {a : Addr} (h : H a = Option.none) : G a = Option.none := by
  cases q : G a with
  | none => rfl
  | some o => rw [e a o q] at h; cases h
/-- as far as it is read -/
def RdX (H H' : Hp) : Prop := (∀ a u, (match u with | .lst _ => True | .tup _ => True | .dK _ => True | .dT _ => True | _ => False) → Rd H a u → Rd H' a u) ∧ (∀ a C dx fs, H a = some (.ins C dx fs) → H' a = some (.ins C dx fs)) ∧ ∀ a xs, H a = some (.lst xs) → H' a = some (.lst xs)
theorem Ex.rdx {H H' : Hp} (e : Ex H H') : RdX H H' := by
  refine ⟨fun a u _ h => ?_, fun a C dx fs h => e _ _ h, fun a xs h => e _ _ h⟩
  rcases h with h | ⟨o, h⟩
  · exact .inl (e a _ h)
  · exact .inr ⟨o, e a _ h⟩
theorem RdX.sqL {K : PySem.W.Frag} {H H' : Hp} {a : Addr} {xs : List V} (e : RdX H H') (h : SqL K H a xs) : SqL K H' a xs := by
  rcases h with h | h
  · exact .inl (e.1 a _ trivial h)
  · exact .inr h
theorem RdX.sqT {K : PySem.W.Frag} {H H' : Hp} {a : Addr} {xs : List V} (e : RdX H H') (h : SqT K H a xs) : SqT K H' a xs := by
  rcases h with h | h
  · exact .inl (e.1 a _ trivial h)
  · exact .inr h
mutual
theorem Rep.rdx {K : PySem.W.Frag} {H H' : Hp} (e : RdX H H') : ∀ {v : V} {d : D}, Rep K H v d → Rep K H' v d
  | _, _, .non => .non
  | _, _, .bl b => .bl b
  | _, _, .int i => .int i
  | _, _, .str s => .str s
  | _, _, .lst h r => .lst (e.2.2 _ _ h) (Reps.rdx e r)
  | _, _, .tup h r => .tup (e.sqT h) (Reps.rdx e r)
  | _, _, .dk h k r => .dk (e.1 _ _ trivial h) k (Reps.rdx e r)
  | _, _, .dt h k r => .dt (e.1 _ _ trivial h) k (Reps.rdx e r)
  | _, _, .ins h k r => .ins (e.2.1 _ _ _ _ h) k (Reps.rdx e r)
  | _, _, .scr h => .scr (e.sqL h)
theorem Reps.rdx {K : PySem.W.Frag} {H H' : Hp} (e : RdX H H') : ∀ {vs : List V} {ds : List D}, Reps K H vs ds → Reps K H' vs ds
  | _, _, .nil => .nil
  | _, _, .cons h r => .cons (Rep.rdx e h) (Reps.rdx e r)
end
theorem Rep.mono {K : PySem.W.Frag} {H H' : Hp} {v : V} {d : D} (h : Rep K H v d) (e : Ex H H') : Rep K H' v d := h.rdx e.rdx
theorem Reps.mono {K : PySem.W.Frag} {H H' : Hp} {vs : List V} {ds : List D} (h : Reps K H vs ds) (e : Ex H H') : Reps K H' vs ds := h.rdx e.rdx
section
variable {K : PySem.W.Frag} {H : Hp}
theorem Reps.length : ∀ {vs : List V} {ds : List D}, Reps K H vs ds → vs.length = ds.length
  | _, _, .nil => rfl
  | _, _, .cons _ r => by simp [Reps.length r]
theorem Reps.get : ∀ {vs : List V} {ds : List D} {i : Nat} {d : D}, Reps K H vs ds → ds[i]? = some d → ∃ v, vs[i]? = some v ∧ Rep K H v d
  | _, _, _, _, .nil, e => by simp at e
  | _, _, 0, _, .cons h _, e => by simp at e; subst e; exact ⟨_, rfl, h⟩
  | _, _, i + 1, _, .cons _ r, e => by
    obtain ⟨v, h1, h2⟩ := Reps.get (i := i) r (by simpa using e)
    exact ⟨v, by simpa using h1, h2⟩
theorem Reps.getV : ∀ {vs : List V} {ds : List D} {i : Nat} {v : V}, Reps K H vs ds → vs[i]? = some v → ∃ d, ds[i]? = some d ∧ Rep K H v d
  | _, _, _, _, .nil, e => by simp at e
  | _, _, 0, _, .cons h _, e => by simp at e; subst e; exact ⟨_, rfl, h⟩
  | _, _, i + 1, _, .cons _ r, e => by
    obtain ⟨v, h1, h2⟩ := Reps.getV (i := i) r (by simpa using e)
    exact ⟨v, by simpa using h1, h2⟩
theorem Reps.append : ∀ {vs ws : List V} {ds es : List D}, Reps K H vs ds → Reps K H ws es → Reps K H (vs ++ ws) (ds ++ es)
  | _, _, _, _, .nil, s => s
  | _, _, _, _, .cons h r, s => .cons h (Reps.append r s)
theorem Reps.take : ∀ {vs : List V} {ds : List D} (n : Nat), Reps K H vs ds → Reps K H (vs.take n) (ds.take n)
  | _, _, 0, _ => .nil
  | _, _, _ + 1, .nil => .nil
  | _, _, n + 1, .cons h r => .cons h (Reps.take n r)
theorem Reps.drop : ∀ {vs : List V} {ds : List D} (n : Nat), Reps K H vs ds → Reps K H (vs.drop n) (ds.drop n)
  | _, _, 0, r => r
  | _, _, _ + 1, .nil => .nil
  | _, _, n + 1, .cons _ r => Reps.drop n r
theorem Reps.set {v : V} {d : D} (h : Rep K H v d) : ∀ {vs : List V} {ds : List D} (i : Nat), Reps K H vs ds → Reps K H (vs.set i v) (ds.set i d)
  | _, _, _, .nil => .nil
  | _, _, 0, .cons _ r => .cons h r
  | _, _, i + 1, .cons q r => .cons q (Reps.set h i r)
theorem Reps.eraseIdx : ∀ {vs : List V} {ds : List D} (i : Nat), Reps K H vs ds → Reps K H (vs.eraseIdx i) (ds.eraseIdx i)
  | _, _, _, .nil => .nil
  | _, _, 0, .cons _ r => r
  | _, _, i + 1, .cons q r => .cons q (Reps.eraseIdx i r)
theorem Reps.nil_inv {vs : List V} (h : Reps K H vs []) : vs = [] := by cases h; rfl
theorem Reps.cons_inv {vs : List V} {d : D} {ds : List D} (h : Reps K H vs (d :: ds)) : ∃ v ws, vs = v :: ws ∧ Rep K H v d ∧ Reps K H ws ds := by
  cases h with | cons a b => exact ⟨_, _, rfl, a, b⟩
theorem Reps.one {vs : List V} {d : D} (h : Reps K H vs [d]) : ∃ v, vs = [v] ∧ Rep K H v d := by
  obtain ⟨v, ws, rfl, a, b⟩ := h.cons_inv
  rw [b.nil_inv]
  exact ⟨v, rfl, a⟩
theorem Reps.two {vs : List V} {d e : D} (h : Reps K H vs [d, e]) : ∃ v w, vs = [v, w] ∧ Rep K H v d ∧ Rep K H w e := by
  obtain ⟨v, ws, rfl, a, b⟩ := h.cons_inv
  obtain ⟨w, rfl, c⟩ := b.one
  exact ⟨v, w, rfl, a, c⟩
end

/-! ### the frame F, what is shared G, the heap H -/
structure Wd (F G H : Hp) : Prop where
  f : Ex F H
  g : Ex G H
  fg : ∀ a o, F a = some o → G a = none

/-- what is known of a slot: nothing; shared data; an object of one's own; the state of draws; a pair of two own lists of texts -/
inductive Sl where
  | un | sh (d : D) | own (a : Addr) (d : D) | drw (a : Addr) | two (k m : Addr) (xs ys : List Str)
abbrev Env := List Sl

def OwnR (K : PySem.W.Frag) (G : Hp) (o : Option HO) : D → Prop
  | .lst ds => ∃ vs, o = some (.lst vs) ∧ Reps K G vs ds
  | .dk ps => ∃ kvs, o = some (.dK kvs) ∧ kvs.map (·.1) = ps.map (·.1) ∧ Reps K G (kvs.map (·.2)) (ps.map (·.2))
  | .dt ps => ∃ kvs, o = some (.dT kvs) ∧ kvs.map (·.1) = ps.map (·.1) ∧ Reps K G (kvs.map (·.2)) (ps.map (·.2))
  | .ins C ps => ∃ dx fs, o = some (.ins (He.ga K C) dx fs) ∧ fs.map (·.1) = ps.map (·.1) ∧ Reps K G (fs.map (·.2)) (ps.map (·.2))
  | _ => False
theorem OwnR.mono {K : PySem.W.Frag} {G G' : Hp} {o : Option HO} {d : D} (h : OwnR K G o d) (x : Ex G G') : OwnR K G' o d := by
  cases d with
  | lst _ => obtain ⟨vs, e, r⟩ := h; exact ⟨vs, e, r.mono x⟩
  | dk _ => obtain ⟨vs, e, k, r⟩ := h; exact ⟨vs, e, k, r.mono x⟩
  | dt _ => obtain ⟨vs, e, k, r⟩ := h; exact ⟨vs, e, k, r.mono x⟩
  | ins _ _ => obtain ⟨dx, vs, e, k, r⟩ := h; exact ⟨dx, vs, e, k, r.mono x⟩
  | _ => exact h.elim
theorem OwnR.some {K : PySem.W.Frag} {G : Hp} {o : Option HO} {d : D} (h : OwnR K G o d) : ∃ u, o = some u ∧ Mut (some u) := by
  cases d with
  | lst _ => obtain ⟨vs, e, r⟩ := h; exact ⟨_, e, trivial⟩
  | dk _ => obtain ⟨vs, e, k, r⟩ := h; exact ⟨_, e, trivial⟩
  | dt _ => obtain ⟨vs, e, k, r⟩ := h; exact ⟨_, e, trivial⟩
  | ins _ _ => obtain ⟨dx, vs, e, k, r⟩ := h; exact ⟨_, e, trivial⟩
  | _ => exact h.elim
/-- the state of draws: three ints -/
def DrwR (o : Option HO) : Prop := ∃ x y z : Int, o = Option.some (.lst [.int x, .int y, .int z])
def SlotOk (K : PySem.W.Frag) (F G H : Hp) (s : Option V) : Sl → Prop
  | .un => True
  | .sh d => ∃ v, s = some v ∧ Rep K G v d
  | .own a d => s = some (.ref a) ∧ G a = none ∧ F a = none ∧ OwnR K G (H a) d
  | .drw a => s = some (.ref a) ∧ G a = none ∧ F a = none ∧ DrwR (H a)
  | .two k m xs ys => (∃ t, s = some (.ref t) ∧ G t = some (.tup [.ref k, .ref m])) ∧ G k = none ∧ F k = none ∧ G m = none ∧ F m = none ∧ H k = some (.lst (xs.map V.str)) ∧ H m = some (.lst (ys.map V.str))
/-- the addresses that are a slot's own -/
def Sl.adr : Sl → List Addr
  | .own a _ => [a]
  | .drw a => [a]
  | .two k m _ _ => [k, m]
  | _ => []
def ownA (ρ : Env) : List Addr := ρ.flatMap Sl.adr
def Slots (K : PySem.W.Frag) (F G H : Hp) : L2.St → Env → Prop
  | [], [] => True
  | s :: σ, r :: ρ => SlotOk K F G H s r ∧ Slots K F G H σ ρ
  | _, _ => False
structure RE (K : PySem.W.Frag) (F G H : Hp) (σ : L2.St) (ρ : Env) : Prop where
  wd : Wd F G H
  sl : Slots K F G H σ ρ
  nd : (ownA ρ).Nodup
section
variable {K : PySem.W.Frag} {F F' G H G' H' : Hp} {σ : L2.St} {ρ : Env} {s : Option V} {r : Sl}
theorem SlotOk.own (h : SlotOk K F G H s r) {a : Addr} (m : a ∈ r.adr) : G a = none ∧ F a = none ∧ ∃ u, H a = some u ∧ Mut (some u) := by
  cases r with
  | un => cases m
  | sh d => cases m
  | own b d =>
    obtain ⟨_, h1, h2, h3⟩ := h
    rw [List.mem_singleton.mp m]
    exact ⟨h1, h2, h3.some⟩
  | drw b =>
    obtain ⟨_, h1, h2, x, y, z, h3⟩ := h
    rw [List.mem_singleton.mp m]
    exact ⟨h1, h2, _, h3, trivial⟩
  | two k l xs ys =>
    obtain ⟨_, h1, h2, h3, h4, h5, h6⟩ := h
    rcases List.mem_cons.mp m with e | m
    · rw [e]; exact ⟨h1, h2, _, h5, trivial⟩
    · rw [List.mem_singleton.mp m]; exact ⟨h3, h4, _, h6, trivial⟩
theorem SlotOk.step (h : SlotOk K F G H s r) (e : Ex G G') (k : ∀ a ∈ r.adr, H' a = H a ∧ G' a = none) : SlotOk K F G' H' s r := by
  cases r with
  | un => trivial
  | sh d => obtain ⟨v, h1, h2⟩ := h; exact ⟨v, h1, h2.mono e⟩
  | own b d =>
    obtain ⟨h0, h1, h2, h3⟩ := h
    have kb := k b (List.mem_singleton.mpr rfl)
    exact ⟨h0, kb.2, h2, by rw [kb.1]; exact h3.mono e⟩
  | drw b =>
    obtain ⟨h0, h1, h2, h3⟩ := h
    have kb := k b (List.mem_singleton.mpr rfl)
    exact ⟨h0, kb.2, h2, by rw [kb.1]; exact h3⟩
  | two p q xs ys =>
    obtain ⟨⟨t, h0, ht⟩, h1, h2, h3, h4, h5, h6⟩ := h
    have kp := k p List.mem_cons_self
    have kq := k q (List.mem_cons_of_mem _ (List.mem_singleton.mpr rfl))
    exact ⟨⟨t, h0, e _ _ ht⟩, kp.2, h2, kq.2, h4, by rw [kp.1]; exact h5, by rw [kq.1]; exact h6⟩
theorem SlotOk.frm (h : SlotOk K F G H s r) (k : ∀ a ∈ r.adr, F' a = none) : SlotOk K F' G H s r := by
  cases r with
  | un => trivial
  | sh d => exact h
  | own b d => obtain ⟨h0, h1, h2, h3⟩ := h; exact ⟨h0, h1, k b (List.mem_singleton.mpr rfl), h3⟩
  | drw b => obtain ⟨h0, h1, h2, h3⟩ := h; exact ⟨h0, h1, k b (List.mem_singleton.mpr rfl), h3⟩
  | two p q xs ys =>
    obtain ⟨h0, h1, h2, h3, h4, h5, h6⟩ := h
    exact ⟨h0, h1, k p List.mem_cons_self, h3, k q (List.mem_cons_of_mem _ (List.mem_singleton.mpr rfl)), h5, h6⟩
theorem ownA_cons : ownA (r :: ρ) = r.adr ++ ownA ρ := List.flatMap_cons
theorem Slots.length : ∀ {σ : L2.St} {ρ : Env}, Slots K F G H σ ρ → σ.length = ρ.length
  | [], [], _ => rfl
  | [], _ :: _, h => h.elim
  | _ :: _, [], h => h.elim
  | _ :: _, _ :: _, h => by simp [Slots.length h.2]
theorem Slots.get : ∀ {σ : L2.St} {ρ : Env} {i : Nat} {r : Sl}, Slots K F G H σ ρ → ρ[i]? = some r → ∃ s, σ[i]? = some s ∧ SlotOk K F G H s r
  | [], [], _, _, _, e => by simp at e
  | [], _ :: _, _, _, h, _ => h.elim
  | _ :: _, [], _, _, h, _ => h.elim
  | s :: σ, r :: ρ, 0, _, h, e => by simp at e; subst e; exact ⟨s, rfl, h.1⟩
  | s :: σ, r :: ρ, i + 1, _, h, e => by
    obtain ⟨s', h1, h2⟩ := Slots.get (i := i) h.2 (by simpa using e)
    exact ⟨s', by simpa using h1, h2⟩
/-- slot by slot -/
theorem Slots.map {F' G' H' : Hp} : ∀ {σ : L2.St} {ρ : Env}, Slots K F G H σ ρ → (∀ (i : Nat) s r, σ[i]? = some s → ρ[i]? = some r → SlotOk K F G H s r → SlotOk K F' G' H' s r) → Slots K F' G' H' σ ρ
  | [], [], _, _ => trivial
  | [], _ :: _, h, _ => h.elim
  | _ :: _, [], h, _ => h.elim
  | s :: σ, r :: ρ, h, k => ⟨k 0 s r rfl rfl h.1, Slots.map h.2 fun i s' r' hs hr => k (i + 1) s' r' (by simpa using hs) (by simpa using hr)⟩
theorem adr_mem {i : Nat} {a : Addr} (h : ρ[i]? = some r) (m : a ∈ r.adr) : a ∈ ownA ρ := List.mem_flatMap.mpr ⟨r, List.mem_of_getElem? h, m⟩
/-- an address that the slots call theirs -/
theorem Slots.own : ∀ {σ : L2.St} {ρ : Env} {a : Addr}, Slots K F G H σ ρ → a ∈ ownA ρ → G a = none ∧ F a = none ∧ ∃ u, H a = some u ∧ Mut (some u)
  | [], [], _, _, m => by cases m
  | [], _ :: _, _, h, _ => h.elim
  | _ :: _, [], _, h, _ => h.elim
  | s :: σ, r :: ρ, a, h, m => by
    rw [ownA_cons] at m
    rcases List.mem_append.mp m with m | m
    · exact h.1.own m
    · exact Slots.own h.2 m
/-- slots stay where what is shared grows, and what is theirs is kept -/
theorem Slots.step (e : Ex G G') (k : ∀ a, a ∈ ownA ρ → H' a = H a ∧ G' a = none) (h : Slots K F G H σ ρ) : Slots K F G' H' σ ρ :=
  h.map fun i s r _ hr q => q.step e fun a m => k a (adr_mem hr m)
theorem Slots.set {s : Option V} {r : Sl} (hs : SlotOk K F G H s r) : ∀ {σ : L2.St} {ρ : Env} (i : Nat), Slots K F G H σ ρ → Slots K F G H (σ.set i s) (ρ.set i r)
  | [], [], _, _ => trivial
  | [], _ :: _, _, h => h.elim
  | _ :: _, [], _, h => h.elim
  | _ :: _, _ :: _, 0, h => ⟨hs, h.2⟩
  | _ :: _, _ :: _, i + 1, h => ⟨h.1, Slots.set hs i h.2⟩
theorem ownA_set0 (hr : r.adr = []) : ∀ {ρ : Env} (i : Nat), (ownA (ρ.set i r)).Sublist (ownA ρ)
  | [], _ => List.Sublist.refl _
  | r0 :: ρ, 0 => by
    show (ownA (r :: ρ)).Sublist _
    rw [ownA_cons, ownA_cons, hr]
    exact List.sublist_append_right _ _
  | r0 :: ρ, i + 1 => by
    show (ownA (r0 :: ρ.set i r)).Sublist _
    rw [ownA_cons, ownA_cons]
    exact (ownA_set0 hr i).append_left _
/-- a slot's addresses become fewer -/
theorem ownA_setr {r r' : Sl} (ha : r'.adr.Sublist r.adr) : ∀ {ρ : Env} {i : Nat}, ρ[i]? = some r → (ownA (ρ.set i r')).Sublist (ownA ρ)
  | [], _, e => by simp at e
  | r0 :: ρ, 0, e => by
    simp at e; subst e
    show (ownA (r' :: ρ)).Sublist _
    rw [ownA_cons, ownA_cons]
    exact ha.append_right _
  | r0 :: ρ, i + 1, e => by
    show (ownA (r0 :: ρ.set i r')).Sublist _
    rw [ownA_cons, ownA_cons]
    exact (ownA_setr ha (by simpa using e)).append_left _
theorem RE.setSh {v : V} {d : D} (R : RE K F G H σ ρ) (hv : Rep K G v d) (i : Nat) : RE K F G H (σ.set i (some v)) (ρ.set i (.sh d)) :=
  ⟨R.wd, R.sl.set (r := .sh d) ⟨v, rfl, hv⟩ i, List.Nodup.sublist (ownA_set0 rfl i) R.nd⟩
theorem RE.setUn {s : Option V} (R : RE K F G H σ ρ) (i : Nat) : RE K F G H (σ.set i s) (ρ.set i .un) :=
  ⟨R.wd, R.sl.set (r := .un) trivial i, List.Nodup.sublist (ownA_set0 rfl i) R.nd⟩
/-- a new shared object -/
theorem RE.new {p : Addr} {o : HO} (R : RE K F G H σ ρ) (h : H p = none) : RE K F (upd G p o) (upd H p o) σ ρ := by
  refine ⟨⟨fun a u e => ?_, R.wd.g.upd, fun a u e => ?_⟩, R.sl.step (Ex.new (R.wd.g.none h)) (fun a m => ?_), R.nd⟩
  · exact (Ex.new h) a u (R.wd.f a u e)
  · rw [upd_ne (ne_of_none (R.wd.f a u e) h)]; exact R.wd.fg a u e
  · obtain ⟨h1, h2, u, h3, _⟩ := R.sl.own m
    have ne := ne_of_none h3 h
    rw [upd_ne ne, upd_ne ne]
    exact ⟨rfl, h1⟩
end

/-! ### readings over data -/
section
variable {K : PySem.W.Frag}
def EvW (K : PySem.W.Frag) (te : TE) (ρ : Env) (Q : D → Env → Prop) : Prop := ∀ F G H σ, RE K F G H σ ρ → ∀ Q' : VK,
  (∀ v d ρ' G' H', Ex G G' → RE K F G' H' σ ρ' → Rep K G' v d → Q d ρ' → Q' v H') → te σ H Q'
/-- a new object that nobody else knows -/
def EvN (K : PySem.W.Frag) (te : TE) (ρ : Env) (Q : D → Env → Prop) : Prop := ∀ F G H σ, RE K F G H σ ρ → ∀ Q' : VK,
  (∀ p d ρ' G' H', Ex G G' → RE K F G' H' σ ρ' → G' p = none → F p = none → p ∉ ownA ρ' → OwnR K G' (H' p) d → Q d ρ' → Q' (.ref p) H') → te σ H Q'
def EvT (K : PySem.W.Frag) (tt : TT) (ρ : Env) (Q : Bool → Env → Prop) : Prop := ∀ F G H σ, RE K F G H σ ρ → ∀ Q' : Bool → Hp → Prop,
  (∀ b ρ' G' H', Ex G G' → RE K F G' H' σ ρ' → Q b ρ' → Q' b H') → tt σ H Q'
def EvA (K : PySem.W.Frag) (ta : TA) (ρ : Env) (Q : List D → Env → Prop) : Prop := ∀ F G H σ, RE K F G H σ ρ → ∀ Q' : List V → Hp → Prop,
  (∀ vs ds ρ' G' H', Ex G G' → RE K F G' H' σ ρ' → Reps K G' vs ds → Q ds ρ' → Q' vs H') → ta σ H Q'
def EvO (K : PySem.W.Frag) (to : TO) (ρ : Env) (Q : Option Int → Env → Prop) : Prop := ∀ F G H σ, RE K F G H σ ρ → ∀ Q' : Option Int → Hp → Prop,
  (∀ o ρ' G' H', Ex G G' → RE K F G' H' σ ρ' → Q o ρ' → Q' o H') → to σ H Q'
/-- an operation on values: one, two, many -/
def Op1 (K : PySem.W.Frag) (r : V → Hp → VK → Prop) (x : D) (ρ : Env) (Q : D → Env → Prop) : Prop := ∀ F G H σ, RE K F G H σ ρ → ∀ v, Rep K G v x → ∀ Q' : VK,
  (∀ z d ρ' G' H', Ex G G' → RE K F G' H' σ ρ' → Rep K G' z d → Q d ρ' → Q' z H') → r v H Q'
def Op2 (K : PySem.W.Frag) (r : R2) (x y : D) (ρ : Env) (Q : D → Env → Prop) : Prop := ∀ F G H σ, RE K F G H σ ρ → ∀ v w, Rep K G v x → Rep K G w y → ∀ Q' : VK,
  (∀ z d ρ' G' H', Ex G G' → RE K F G' H' σ ρ' → Rep K G' z d → Q d ρ' → Q' z H') → r v w H Q'
def OpA (K : PySem.W.Frag) (r : List V → Hp → VK → Prop) (xs : List D) (ρ : Env) (Q : D → Env → Prop) : Prop := ∀ F G H σ, RE K F G H σ ρ → ∀ vs, Reps K G vs xs → ∀ Q' : VK,
  (∀ z d ρ' G' H', Ex G G' → RE K F G' H' σ ρ' → Rep K G' z d → Q d ρ' → Q' z H') → r vs H Q'
/-- .. that gives a new object -/
def OpN (K : PySem.W.Frag) (r : List V → Hp → VK → Prop) (xs : List D) (ρ : Env) (Q : D → Env → Prop) : Prop := ∀ F G H σ, RE K F G H σ ρ → ∀ vs, Reps K G vs xs → ∀ Q' : VK,
  (∀ p d ρ' G' H', Ex G G' → RE K F G' H' σ ρ' → G' p = none → F p = none → p ∉ ownA ρ' → OwnR K G' (H' p) d → Q d ρ' → Q' (.ref p) H') → r vs H Q'
variable {te ta tb tc : TE} {tt tu : TT} {ts : TA} {ρ : Env} {Q : D → Env → Prop}
theorem ew_weak {Q₁ : D → Env → Prop} (h : EvW K te ρ Q₁) (w : ∀ d ρ', Q₁ d ρ' → Q d ρ') : EvW K te ρ Q := fun F G H σ R Q' k => h F G H σ R Q' fun v d ρ' G' H' e R' hv q => k v d ρ' G' H' e R' hv (w d ρ' q)
theorem et_weak {Q Q₁ : Bool → Env → Prop} (h : EvT K tt ρ Q₁) (w : ∀ d ρ', Q₁ d ρ' → Q d ρ') : EvT K tt ρ Q := fun F G H σ R Q' k => h F G H σ R Q' fun v ρ' G' H' e R' q => k v ρ' G' H' e R' (w v ρ' q)
theorem ew_var {i : Nat} {d : D} (h : ρ[i]? = some (.sh d)) (q : Q d ρ) : EvW K (tVar i) ρ Q := fun F G H σ R Q' k => by
  obtain ⟨s, e, v, rfl, hv⟩ := R.sl.get h
  exact ⟨v, e, k v d ρ G H (Ex.refl G) R hv q⟩
theorem ew_int {i : Int} (q : Q (.int i) ρ) : EvW K (tC (.int i)) ρ Q := fun F G H σ R Q' k => k _ _ ρ G H (Ex.refl G) R (.int i) q
theorem ew_str {s : Str} (q : Q (.str s) ρ) : EvW K (tC (.str s)) ρ Q := fun F G H σ R Q' k => k _ _ ρ G H (Ex.refl G) R (.str s) q
theorem ew_bl {b : Bool} (q : Q (.bl b) ρ) : EvW K (tC (.bl b)) ρ Q := fun F G H σ R Q' k => k _ _ ρ G H (Ex.refl G) R (.bl b) q
theorem ew_non (q : Q .non ρ) : EvW K (tC .non) ρ Q := fun F G H σ R Q' k => k _ _ ρ G H (Ex.refl G) R .non q
/-- a constant of the top -/
theorem ew_c {v : V} {d : D} (h : ∀ G, Rep K G v d) (q : Q d ρ) : EvW K (tC v) ρ Q := fun F G H σ R Q' k => k _ _ ρ G H (Ex.refl G) R (h G) q
theorem ew_un {r : V → Hp → VK → Prop} (h : EvW K ta ρ fun x ρ1 => Op1 K r x ρ1 Q) : EvW K (tUn r ta) ρ Q := fun F G H σ R Q' k =>
  h F G H σ R _ fun v x ρ1 G1 H1 e1 R1 hv q => q F G1 H1 σ R1 v hv Q' fun z d ρ' G' H' e' R' hz qz => k z d ρ' G' H' (e1.trans e') R' hz qz
theorem ew_op {r : R2} (h : EvW K ta ρ fun x ρ1 => EvW K tb ρ1 fun y ρ2 => Op2 K r x y ρ2 Q) : EvW K (tOp r ta tb) ρ Q := fun F G H σ R Q' k =>
  h F G H σ R _ fun v x ρ1 G1 H1 e1 R1 hv q1 => q1 F G1 H1 σ R1 _ fun w y ρ2 G2 H2 e2 R2 hw q2 =>
    q2 F G2 H2 σ R2 v w (hv.mono e2) hw Q' fun z d ρ' G' H' e' R' hz qz => k z d ρ' G' H' ((e1.trans e2).trans e') R' hz qz
theorem ea_nil {Q : List D → Env → Prop} (q : Q [] ρ) : EvA K tNil ρ Q := fun F G H σ R Q' k => k [] [] ρ G H (Ex.refl G) R .nil q
theorem ea_cons {Q : List D → Env → Prop} (h : EvW K ta ρ fun x ρ1 => EvA K ts ρ1 fun xs ρ2 => Q (x :: xs) ρ2) : EvA K (tCons ta ts) ρ Q := fun F G H σ R Q' k =>
  h F G H σ R _ fun v x ρ1 G1 H1 e1 R1 hv q1 => q1 F G1 H1 σ R1 _ fun vs xs ρ2 G2 H2 e2 R2 hvs q2 => k _ _ ρ2 G2 H2 (e1.trans e2) R2 (.cons (hv.mono e2) hvs) q2
theorem ew_cb {r : List V → Hp → VK → Prop} (h : EvA K ts ρ fun xs ρ1 => OpA K r xs ρ1 Q) : EvW K (tCB r ts) ρ Q := fun F G H σ R Q' k =>
  h F G H σ R _ fun vs xs ρ1 G1 H1 e1 R1 hv q => q F G1 H1 σ R1 vs hv Q' fun z d ρ' G' H' e' R' hz qz => k z d ρ' G' H' (e1.trans e') R' hz qz
theorem en_cb {r : List V → Hp → VK → Prop} (h : EvA K ts ρ fun xs ρ1 => OpN K r xs ρ1 Q) : EvN K (tCB r ts) ρ Q := fun F G H σ R Q' k =>
  h F G H σ R _ fun vs xs ρ1 G1 H1 e1 R1 hv q => q F G1 H1 σ R1 vs hv Q' fun p d ρ' G' H' e' R' a b c o qz => k p d ρ' G' H' (e1.trans e') R' a b c o qz
/-- what is new may be shared -/
theorem ownR_rep {G G' : Hp} {p : Addr} {o : Option HO} {d : D} (h : OwnR K G o d) (e : G' p = o) (x : Ex G G') : Rep K G' (.ref p) d := by
  cases d with
  | lst _ => obtain ⟨vs, e1, r⟩ := h; exact .lst (e.trans e1) (r.mono x)
  | dk _ => obtain ⟨vs, e1, k, r⟩ := h; exact .dk (.inl (e.trans e1)) k (r.mono x)
  | dt _ => obtain ⟨vs, e1, k, r⟩ := h; exact .dt (.inl (e.trans e1)) k (r.mono x)
  | ins _ _ => obtain ⟨dx, vs, e1, k, r⟩ := h; exact .ins (e.trans e1) k (r.mono x)
  | _ => exact h.elim
theorem RE.share {F G H : Hp} {σ : L2.St} {ρ : Env} (R : RE K F G H σ ρ) {p : Addr} {o : HO} (hp : H p = some o) (hG : G p = none) (hF : F p = none) (hO : p ∉ ownA ρ) : RE K F (upd G p o) H σ ρ := by
  refine ⟨⟨R.wd.f, fun a u e => ?_, fun a u e => ?_⟩, R.sl.step (Ex.new hG) (fun a m => ?_), R.nd⟩
  · by_cases q : a = p
    · subst q; rw [upd_same] at e; cases e; exact hp
    · rw [upd_ne q] at e; exact R.wd.g a u e
  · by_cases q : a = p
    · subst q; rw [hF] at e; cases e
    · rw [upd_ne q]; exact R.wd.fg a u e
  · have ne : a ≠ p := fun z => hO (z ▸ m)
    rw [upd_ne ne]
    exact ⟨rfl, (R.sl.own m).1⟩
theorem ew_new (h : EvN K te ρ Q) : EvW K te ρ Q := fun F G H σ R Q' k => h F G H σ R Q' fun p d ρ' G' H' e R' hG hF hO o q => by
  obtain ⟨u, hu, _⟩ := o.some
  refine k (.ref p) d ρ' (upd G' p u) H' (e.trans (Ex.new hG)) (R'.share hu hG hF hO) (ownR_rep o (by rw [upd_same, hu]) (Ex.new hG)) q
theorem ownA_fresh {F G H : Hp} {σ : L2.St} {ρ : Env} (R : RE K F G H σ ρ) {p : Addr} (h : H p = none) : p ∉ ownA ρ := fun m => by
  obtain ⟨_, _, u, e, _⟩ := R.sl.own m
  rw [h] at e; cases e
/-- a new object, nobody's yet -/
theorem RE.alone {F G H : Hp} {σ : L2.St} {ρ : Env} (R : RE K F G H σ ρ) {p : Addr} {o : HO} (h : H p = none) : RE K F G (upd H p o) σ ρ := by
  refine ⟨⟨R.wd.f.trans (Ex.new h), R.wd.g.trans (Ex.new h), R.wd.fg⟩, R.sl.step (Ex.refl G) (fun a m => ?_), R.nd⟩
  obtain ⟨h1, h2, u, h3, _⟩ := R.sl.own m
  exact ⟨upd_ne (ne_of_none h3 h), h1⟩
theorem big {n : Nat} (h : n ≤ 100000) : n ≤ sizeLine := Nat.le_trans h (by decide)
theorem bigl {n : Nat} (h : n < 100000) : n < sizeLine := Nat.lt_of_lt_of_le h (by decide)
theorem en_lst (h : EvA K ts ρ fun xs ρ1 => xs.length ≤ 100000 ∧ Q (.lst xs) ρ1) : EvN K (tLst ts) ρ Q := fun F G H σ R Q' k =>
  h F G H σ R _ fun vs xs ρ1 G1 H1 e1 R1 hv q => ⟨by rw [hv.length]; exact big q.1, fun p hp => k p (.lst xs) ρ1 G1 _ e1 (R1.alone hp) (R1.wd.g.none hp) (R1.wd.f.none hp) (ownA_fresh R1 hp) ⟨vs, upd_same, hv⟩ q.2⟩
theorem ew_tup (h : EvA K ts ρ fun xs ρ1 => xs.length ≤ 100000 ∧ Q (.tup xs) ρ1) : EvW K (tTup ts) ρ Q := fun F G H σ R Q' k =>
  h F G H σ R _ fun vs xs ρ1 G1 H1 e1 R1 hv q => ⟨by rw [hv.length]; exact big q.1, fun p hp => k (.ref p) (.tup xs) ρ1 _ _ (e1.trans (Ex.new (R1.wd.g.none hp))) (R1.new hp) (.tup (.inl (.inl upd_same)) (hv.mono (Ex.new (R1.wd.g.none hp)))) q.2⟩
theorem en_dnewK (q : Q (.dk []) ρ) : EvN K tDNewK ρ Q := fun F G H σ R Q' k p hp => k p (.dk []) ρ G _ (Ex.refl G) (R.alone hp) (R.wd.g.none hp) (R.wd.f.none hp) (ownA_fresh R hp) ⟨[], upd_same, rfl, .nil⟩ q
theorem en_dnewT (q : Q (.dt []) ρ) : EvN K tDNewT ρ Q := fun F G H σ R Q' k p hp => k p (.dt []) ρ G _ (Ex.refl G) (R.alone hp) (R.wd.g.none hp) (R.wd.f.none hp) (ownA_fresh R hp) ⟨[], upd_same, rfl, .nil⟩ q
/-! tests -/
theorem rep_bl {H : Hp} {v : V} {b : Bool} (h : Rep K H v (.bl b)) : v = .bl b := by cases h; rfl
theorem rep_int {H : Hp} {v : V} {b : Int} (h : Rep K H v (.int b)) : v = .int b := by cases h; rfl
theorem rep_str {H : Hp} {v : V} {b : Str} (h : Rep K H v (.str b)) : v = .str b := by cases h; rfl
theorem rep_non {H : Hp} {v : V} (h : Rep K H v .non) : v = .non := by cases h; rfl
theorem et_test {Q : Bool → Env → Prop} (h : EvW K te ρ fun d ρ1 => ∃ b, d = .bl b ∧ Q b ρ1) : EvT K (tTest te) ρ Q := fun F G H σ R Q' k =>
  h F G H σ R _ fun v d ρ1 G1 H1 e1 R1 hv q => by
    obtain ⟨b, rfl, q⟩ := q
    exact ⟨b, rep_bl hv, k b ρ1 G1 H1 e1 R1 q⟩
theorem et_B {Q : Bool → Env → Prop} (h : EvW K te ρ fun d ρ1 => ∃ b, d = .bl b ∧ Q b ρ1) : EvT K (tB te) ρ Q := fun F G H σ R Q' k =>
  h F G H σ R _ fun v d ρ1 G1 H1 e1 R1 hv q => by
    obtain ⟨b, rfl, q⟩ := q
    exact ⟨b, rep_bl hv, k b ρ1 G1 H1 e1 R1 q⟩
theorem et_and {Q : Bool → Env → Prop} (h : EvT K tt ρ fun b ρ1 => if b = true then EvT K tu ρ1 Q else Q false ρ1) : EvT K (tAnd tt tu) ρ Q := fun F G H σ R Q' k =>
  h F G H σ R _ fun b ρ1 G1 H1 e1 R1 q => by
    cases b with
    | true => exact q F G1 H1 σ R1 Q' fun b ρ2 G2 H2 e2 R2 q2 => k b ρ2 G2 H2 (e1.trans e2) R2 q2
    | false => exact k false ρ1 G1 H1 e1 R1 q
theorem et_or {Q : Bool → Env → Prop} (h : EvT K tt ρ fun b ρ1 => if b = true then Q true ρ1 else EvT K tu ρ1 Q) : EvT K (tOr tt tu) ρ Q := fun F G H σ R Q' k =>
  h F G H σ R _ fun b ρ1 G1 H1 e1 R1 q => by
    cases b with
    | false => exact q F G1 H1 σ R1 Q' fun b ρ2 G2 H2 e2 R2 q2 => k b ρ2 G2 H2 (e1.trans e2) R2 q2
    | true => exact k true ρ1 G1 H1 e1 R1 q
theorem et_not {Q : Bool → Env → Prop} (h : EvT K tt ρ fun b ρ1 => Q (!b) ρ1) : EvT K (tNot tt) ρ Q := fun F G H σ R Q' k =>
  h F G H σ R _ fun b ρ1 G1 H1 e1 R1 q => k (!b) ρ1 G1 H1 e1 R1 q
theorem et_yes {Q : Bool → Env → Prop} (q : Q true ρ) : EvT K tYes ρ Q := fun F G H σ R Q' k => k true ρ G H (Ex.refl G) R q
theorem ew_andV (h : EvW K ta ρ fun x ρ1 => ∃ c, x = .bl c ∧ if c = true then EvW K tb ρ1 Q else Q (.bl false) ρ1) : EvW K (tAndV ta tb) ρ Q := fun F G H σ R Q' k =>
  h F G H σ R _ fun v x ρ1 G1 H1 e1 R1 hv q => by
    obtain ⟨c, rfl, q⟩ := q
    refine ⟨c, rep_bl hv, ?_⟩
    cases c with
    | true => exact q F G1 H1 σ R1 Q' fun v d ρ2 G2 H2 e2 R2 hv q2 => k v d ρ2 G2 H2 (e1.trans e2) R2 hv q2
    | false => exact k _ _ ρ1 G1 H1 e1 R1 (.bl false) q
theorem ew_orV (h : EvW K ta ρ fun x ρ1 => ∃ c, x = .bl c ∧ if c = true then Q (.bl true) ρ1 else EvW K tb ρ1 Q) : EvW K (tOrV ta tb) ρ Q := fun F G H σ R Q' k =>
  h F G H σ R _ fun v x ρ1 G1 H1 e1 R1 hv q => by
    obtain ⟨c, rfl, q⟩ := q
    refine ⟨c, rep_bl hv, ?_⟩
    cases c with
    | false => exact q F G1 H1 σ R1 Q' fun v d ρ2 G2 H2 e2 R2 hv q2 => k v d ρ2 G2 H2 (e1.trans e2) R2 hv q2
    | true => exact k _ _ ρ1 G1 H1 e1 R1 (.bl true) q
theorem ew_notV (h : EvW K ta ρ fun x ρ1 => ∃ c, x = .bl c ∧ Q (.bl (!c)) ρ1) : EvW K (tNotV ta) ρ Q := fun F G H σ R Q' k =>
  h F G H σ R _ fun v x ρ1 G1 H1 e1 R1 hv q => by
    obtain ⟨c, rfl, q⟩ := q
    exact ⟨c, rep_bl hv, k _ _ ρ1 G1 H1 e1 R1 (.bl _) q⟩
theorem ew_if (h : EvT K tt ρ fun b ρ1 => if b = true then EvW K ta ρ1 Q else EvW K tb ρ1 Q) : EvW K (tIf tt ta tb) ρ Q := fun F G H σ R Q' k =>
  h F G H σ R _ fun b ρ1 G1 H1 e1 R1 q => by
    cases b with
    | true => exact q F G1 H1 σ R1 Q' fun v d ρ2 G2 H2 e2 R2 hv q2 => k v d ρ2 G2 H2 (e1.trans e2) R2 hv q2
    | false => exact q F G1 H1 σ R1 Q' fun v d ρ2 G2 H2 e2 R2 hv q2 => k v d ρ2 G2 H2 (e1.trans e2) R2 hv q2
theorem ew_chain {r r' : R2} (h : EvW K ta ρ fun x ρ1 => EvW K tb ρ1 fun y ρ2 => Op2 K r x y ρ2 fun z ρ3 => ∃ c, z = .bl c ∧ if c = true then EvW K tc ρ3 fun w ρ4 => Op2 K r' y w ρ4 Q else Q (.bl false) ρ3) : EvW K (tChain r r' ta tb tc) ρ Q := fun F G H σ R Q' k =>
  h F G H σ R _ fun v x ρ1 G1 H1 e1 R1 hv q1 => q1 F G1 H1 σ R1 _ fun w y ρ2 G2 H2 e2 R2 hw q2 =>
    q2 F G2 H2 σ R2 v w (hv.mono e2) hw _ fun z d ρ3 G3 H3 e3 R3 hz qz => by
      obtain ⟨c, rfl, q⟩ := qz
      refine ⟨c, rep_bl hz, ?_⟩
      cases c with
      | true => exact q F G3 H3 σ R3 _ fun u d ρ4 G4 H4 e4 R4 hu q4 => q4 F G4 H4 σ R4 w u (hw.mono (e3.trans e4)) hu Q' fun z d ρ5 G5 H5 e5 R5 hz q5 => k z d ρ5 G5 H5 ((((e1.trans e2).trans e3).trans e4).trans e5) R5 hz q5
      | false => exact k _ _ ρ3 G3 H3 ((e1.trans e2).trans e3) R3 (.bl false) q
end
end DL

set_option Elab.async false
set_option linter.all false
set_option maxRecDepth 100000
namespace DL
open PySem L2
section
variable {K : PySem.W.Frag} {F G H G' H' : Hp} {σ : L2.St} {ρ : Env}
/-- the frame with what is one's own -/
def addF (F H : Hp) (as : List Addr) : Hp := fun a => if a ∈ as then H a else F a
theorem addF_in {F H : Hp} {as : List Addr} {a : Addr} (h : a ∈ as) : addF F H as a = H a := if_pos h
theorem addF_out {F H : Hp} {as : List Addr} {a : Addr} (h : a ∉ as) : addF F H as a = F a := if_neg h
theorem RE.wdF (R : RE K F G H σ ρ) {as : List Addr} (sub : ∀ a ∈ as, a ∈ ownA ρ) : Wd (addF F H as) G H := by
  refine ⟨fun a o e => ?_, R.wd.g, fun a o e => ?_⟩
  · by_cases m : a ∈ as
    · rw [addF_in m] at e; exact e
    · rw [addF_out m] at e; exact R.wd.f a o e
  · by_cases m : a ∈ as
    · exact (R.sl.own (sub a m)).1
    · rw [addF_out m] at e; exact R.wd.fg a o e
theorem RE.wdB (R : RE K F G H σ ρ) {as : List Addr} (sub : ∀ a ∈ as, a ∈ ownA ρ) (W : Wd (addF F H as) G' H') : Wd F G' H' := by
  refine ⟨fun a o e => ?_, W.g, fun a o e => ?_⟩
  · have m : a ∉ as := fun m => by rw [(R.sl.own (sub a m)).2.1] at e; cases e
    exact W.f a o (by rw [addF_out m]; exact e)
  · have m : a ∉ as := fun m => by rw [(R.sl.own (sub a m)).2.1] at e; cases e
    exact W.fg a o (by rw [addF_out m]; exact e)
theorem RE.keepF (R : RE K F G H σ ρ) {as : List Addr} (W : Wd (addF F H as) G' H') {a : Addr} (m : a ∈ as) (mo : a ∈ ownA ρ) : H' a = H a ∧ G' a = none := by
  obtain ⟨_, _, u, e, _⟩ := R.sl.own mo
  refine ⟨?_, W.fg a u (by rw [addF_in m]; exact e)⟩
  rw [e]
  exact W.f a u (by rw [addF_in m]; exact e)
theorem RE.back (R : RE K F G H σ ρ) (W : Wd (addF F H (ownA ρ)) G' H') (e : Ex G G') : RE K F G' H' σ ρ :=
  ⟨R.wdB (fun _ m => m) W, R.sl.step e fun a m => R.keepF W m m, R.nd⟩
theorem nodup_apart : ∀ {ρ : Env} {i j : Nat} {r r' : Sl} {a : Addr}, (ownA ρ).Nodup → ρ[i]? = some r → ρ[j]? = some r' → i ≠ j → a ∈ r.adr → a ∉ r'.adr
  | [], _, _, _, _, _, _, e, _, _, _ => by simp at e
  | r0 :: ρ, 0, 0, _, _, _, _, _, _, n, _ => absurd rfl n
  | r0 :: ρ, 0, j + 1, r, r', a, nd, e, f, _, m => fun m' => by
    simp at e; subst e
    rw [ownA_cons] at nd
    exact (List.nodup_append.mp nd).2.2 a m a (adr_mem (by simpa using f) m') rfl
  | r0 :: ρ, i + 1, 0, r, r', a, nd, e, f, _, m => fun m' => by
    simp at f; subst f
    rw [ownA_cons] at nd
    exact (List.nodup_append.mp nd).2.2 a m' a (adr_mem (by simpa using e) m) rfl
  | r0 :: ρ, i + 1, j + 1, r, r', a, nd, e, f, n, m => by
    rw [ownA_cons] at nd
    exact nodup_apart (List.nodup_append.mp nd).2.1 (by simpa using e) (by simpa using f) (fun z => n (by rw [z])) m
/-- one slot is another now, the others stay -/
theorem Slots.but {r' : Sl} : ∀ {σ : L2.St} {ρ : Env} {i : Nat} {s : Option V}, Slots K F G H σ ρ → σ[i]? = some s → SlotOk K F G' H' s r' → (∀ (j : Nat) s r, j ≠ i → σ[j]? = some s → ρ[j]? = some r → SlotOk K F G H s r → SlotOk K F G' H' s r) → Slots K F G' H' σ (ρ.set i r')
  | [], [], _, _, _, e, _, _ => by simp at e
  | [], _ :: _, _, _, h, _, _, _ => h.elim
  | _ :: _, [], _, _, h, _, _, _ => h.elim
  | s0 :: σ, r0 :: ρ, 0, s, h, e, hs, k => by
    simp at e; subst e
    exact ⟨hs, h.2.map fun j s r h1 h2 => k (j + 1) s r (by omega) (by simpa using h1) (by simpa using h2)⟩
  | s0 :: σ, r0 :: ρ, i + 1, s, h, e, hs, k => ⟨k 0 s0 r0 (by omega) rfl rfl h.1, Slots.but h.2 (by simpa using e) hs fun j s r n h1 h2 => k (j + 1) s r (by omega) (by simpa using h1) (by simpa using h2)⟩
/-- the object at a of slot i, changed -/
theorem RE.mut {r r' : Sl} {i : Nat} {a : Addr} {o : HO} {s : Option V} (R : RE K F G H σ ρ) (hr : ρ[i]? = some r) (ha : a ∈ r.adr) (ha' : r'.adr.Sublist r.adr) (hσ : σ[i]? = some s) (hs : SlotOk K F G (upd H a o) s r') : RE K F G (upd H a o) σ (ρ.set i r') := by
  obtain ⟨hG, hF, _⟩ := R.sl.own (adr_mem hr ha)
  refine ⟨⟨fun b u e => ?_, fun b u e => ?_, R.wd.fg⟩, R.sl.but hσ hs (fun j s r2 n h1 h2 q => q.step (Ex.refl G) fun b m => ⟨upd_ne fun z => ?_, (q.own m).1⟩), List.Nodup.sublist (ownA_setr ha' hr) R.nd⟩
  · rw [upd_ne (ne_of_none e hF)]; exact R.wd.f b u e
  · rw [upd_ne (ne_of_none e hG)]; exact R.wd.g b u e
  · exact nodup_apart R.nd hr h2 (Ne.symm n) ha (z ▸ m)
theorem set_same {i : Nat} {r : Sl} (h : ρ[i]? = some r) : ρ.set i r = ρ := by
  obtain ⟨hl, hx⟩ := List.getElem?_eq_some_iff.mp h
  rw [← hx, List.set_getElem_self]
/-- own no more: shared from now on -/
theorem RE.give {i : Nat} {a : Addr} {d : D} (R : RE K F G H σ ρ) (hr : ρ[i]? = some (.own a d)) : ∃ o : HO, σ[i]? = some (some (.ref a)) ∧ H a = some o ∧ G a = none ∧ RE K F (upd G a o) H σ (ρ.set i (.sh d)) ∧ Rep K (upd G a o) (.ref a) d := by
  obtain ⟨s, hσ, rfl, hG, hF, ho⟩ := R.sl.get hr
  obtain ⟨o, e, _⟩ := ho.some
  have rp : Rep K (upd G a o) (.ref a) d := ownR_rep ho (by rw [upd_same, e]) (Ex.new hG)
  refine ⟨o, hσ, e, hG, ⟨⟨R.wd.f, fun b u q => ?_, fun b u q => ?_⟩, R.sl.but hσ (show SlotOk K F (upd G a o) H (some (.ref a)) (.sh d) from ⟨_, rfl, rp⟩) (fun j s r2 n h1 h2 q => q.step (Ex.new hG) fun b m => ⟨rfl, ?_⟩), List.Nodup.sublist (ownA_setr (r' := .sh d) (List.nil_sublist _) hr) R.nd⟩, rp⟩
  · by_cases z : b = a
    · subst z; rw [upd_same] at q; cases q; exact e
    · rw [upd_ne z] at q; exact R.wd.g b u q
  · by_cases z : b = a
    · subst z; rw [hF] at q; cases q
    · rw [upd_ne z]; exact R.wd.fg b u q
  · have z : b ≠ a := fun z => nodup_apart R.nd hr h2 (Ne.symm n) (List.mem_singleton.mpr rfl) (z ▸ m)
    rw [upd_ne z]
    exact (q.own m).1
end

/-! ### promises -/
/-- a def of plain data: T says what may come -/
def spP (K : PySem.W.Frag) (T : List D → (D → Prop) → Prop) : Sp := fun vs H Q _ => ∃ F G ds Qd, Wd F G H ∧ Reps K G vs ds ∧ T ds Qd ∧
  ∀ v d G' H', Ex G G' → Wd F G' H' → Rep K G' v d → Qd d → Q v H'
/-- .. whose first argument is the state of draws -/
def spW (K : PySem.W.Frag) (T : List D → (D → Prop) → Prop) : Sp := fun vs H Q _ => ∃ a ws F G ds Qd, vs = .ref a :: ws ∧ Wd F G H ∧ G a = none ∧ F a = none ∧ DrwR (H a) ∧ Reps K G ws ds ∧ T ds Qd ∧
  ∀ v d G' H', Ex G G' → Wd F G' H' → G' a = none → DrwR (H' a) → Rep K G' v d → Qd d → Q v H'
/-- a def of plain data that hands back a new object -/
def spN (K : PySem.W.Frag) (T : List D → (D → Prop) → Prop) : Sp := fun vs H Q _ => ∃ F G ds Qd, Wd F G H ∧ Reps K G vs ds ∧ T ds Qd ∧
  ∀ p d G' H', Ex G G' → Wd F G' H' → G' p = none → F p = none → OwnR K G' (H' p) d → Qd d → Q (.ref p) H'
/-- a plain function -/
def fnT (f : List D → Option D) : List D → (D → Prop) → Prop := fun ds Q => ∃ d, f ds = some d ∧ Q d

section
variable {K : PySem.W.Frag} {te ta tb tc : TE} {tt tu : TT} {ts : TA} {ρ : Env} {Q : D → Env → Prop} {T : List D → (D → Prop) → Prop} {E : XK}
theorem ew_callP (h : EvA K ts ρ fun ds ρ1 => T ds fun d => Q d ρ1) : EvW K (tCall (spP K T) [] E ts) ρ Q := fun F G H σ R Q' k =>
  h F G H σ R _ fun vs ds ρ1 G1 H1 e1 R1 hv q => by
    refine ⟨addF F H1 (ownA ρ1), G1, ds, _, R1.wdF (fun _ m => m), by rw [List.append_nil]; exact hv, q, fun v d G' H' e W hd qd => ?_⟩
    exact k v d ρ1 G' H' (e1.trans e) (R1.back W e) hd qd
theorem en_callN (h : EvA K ts ρ fun ds ρ1 => T ds fun d => Q d ρ1) : EvN K (tCall (spN K T) [] E ts) ρ Q := fun F G H σ R Q' k =>
  h F G H σ R _ fun vs ds ρ1 G1 H1 e1 R1 hv q => by
    refine ⟨addF F H1 (ownA ρ1), G1, ds, _, R1.wdF (fun _ m => m), by rw [List.append_nil]; exact hv, q, fun p d G' H' e W hG hF ho qd => ?_⟩
    have np : p ∉ ownA ρ1 := fun m => by
      obtain ⟨_, _, u, hu, _⟩ := R1.sl.own m
      rw [addF_in m, hu] at hF; cases hF
    rw [addF_out np] at hF
    exact k p d ρ1 G' H' (e1.trans e) (R1.back W e) hG hF np ho qd
theorem ew_callW {i : Nat} {a : Addr} (hi : ρ[i]? = some (.drw a)) (h : EvA K ts ρ fun ds ρ1 => ρ1[i]? = some (.drw a) ∧ T ds fun d => Q d ρ1) : EvW K (tCall (spW K T) [] E (tCons (tVar i) ts)) ρ Q := fun F G H σ R Q' k => by
  obtain ⟨s, hs, rfl, _⟩ := R.sl.get hi
  refine ⟨.ref a, hs, h F G H σ R _ fun vs ds ρ1 G1 H1 e1 R1 hv q => ?_⟩
  obtain ⟨hi1, q⟩ := q
  obtain ⟨_, hs1, e, g1, g2, g3⟩ := R1.sl.get hi1
  have sub : ∀ b ∈ (ownA ρ1).filter (fun b => decide (b ≠ a)), b ∈ ownA ρ1 := fun b m => (List.mem_filter.mp m).1
  have na : a ∉ (ownA ρ1).filter (fun b => decide (b ≠ a)) := fun m => by
    have := (List.mem_filter.mp m).2
    simp at this
  refine ⟨a, vs, addF F H1 ((ownA ρ1).filter fun b => decide (b ≠ a)), G1, ds, _, by rw [List.append_nil], R1.wdF sub, g1, by rw [addF_out na]; exact g2, g3, hv, q, fun v d G' H' e2 W gn dn hd qd => ?_⟩
  have hF := R1.wdB sub W
  have hsl := R1.sl.but hs (show SlotOk K F G' H' (some (.ref a)) (.drw a) from ⟨rfl, gn, g2, dn⟩) (fun j s r2 n h1 h2 z => z.step e2 fun b m => ?_)
  · rw [set_same hi1] at hsl
    exact k v d ρ1 G' H' (e1.trans e2) ⟨hF, hsl, R1.nd⟩ hd qd
  · have nb : b ≠ a := fun z => nodup_apart R1.nd hi1 h2 (Ne.symm n) (List.mem_singleton.mpr rfl) (z ▸ m)
    have mb := adr_mem h2 m
    exact R1.keepF W (List.mem_filter.mpr ⟨mb, by simpa using nb⟩) mb
end

/-! ### statements -/
structure EndD where
  nx : Env → Prop
  rt : D → Env → Prop
  bk : Env → Prop := fun _ => False
  ct : Env → Prop := fun _ => False
  ro : D → Env → Prop := fun _ _ => False
structure Links (K : PySem.W.Frag) (F G : Hp) (E : EndD) (Dn : Ends) : Prop where
  nx : ∀ σ' ρ' G' H', Ex G G' → RE K F G' H' σ' ρ' → E.nx ρ' → Dn.nx σ' H'
  rt : ∀ v d σ' ρ' G' H', Ex G G' → RE K F G' H' σ' ρ' → Rep K G' v d → E.rt d ρ' → Dn.rt v H'
  bk : ∀ σ' ρ' G' H', Ex G G' → RE K F G' H' σ' ρ' → E.bk ρ' → Dn.bk σ' H'
  ct : ∀ σ' ρ' G' H', Ex G G' → RE K F G' H' σ' ρ' → E.ct ρ' → Dn.ct σ' H'
  ro : ∀ p d σ' ρ' G' H', Ex G G' → RE K F G' H' σ' ρ' → G' p = none → F p = none → p ∉ ownA ρ' → OwnR K G' (H' p) d → E.ro d ρ' → Dn.rt (.ref p) H'
theorem Links.mono {K : PySem.W.Frag} {F G G1 : Hp} {E : EndD} {Dn : Ends} (L : Links K F G E Dn) (e : Ex G G1) : Links K F G1 E Dn :=
  ⟨fun σ' ρ' G' H' x => L.nx σ' ρ' G' H' (e.trans x), fun v d σ' ρ' G' H' x => L.rt v d σ' ρ' G' H' (e.trans x), fun σ' ρ' G' H' x => L.bk σ' ρ' G' H' (e.trans x), fun σ' ρ' G' H' x => L.ct σ' ρ' G' H' (e.trans x), fun p d σ' ρ' G' H' x => L.ro p d σ' ρ' G' H' (e.trans x)⟩
def WS (K : PySem.W.Frag) (t : TS) (ρ : Env) (E : EndD) : Prop := ∀ F G H σ Dn, RE K F G H σ ρ → Links K F G E Dn → t Dn σ H
/-- a target -/
def GW (K : PySem.W.Frag) (g : TG) (d : D) (ρ : Env) (Q : Env → Prop) : Prop := ∀ F G H σ v, RE K F G H σ ρ → Rep K G v d → ∀ Q' : L2.St → Hp → Prop, (∀ σ' ρ' G' H', Ex G G' → RE K F G' H' σ' ρ' → Q ρ' → Q' σ' H') → g v σ H Q'
def GWs (K : PySem.W.Frag) (g : TGs) (ds : List D) (ρ : Env) (Q : Env → Prop) : Prop := ∀ F G H σ vs, RE K F G H σ ρ → Reps K G vs ds → ∀ Q' : L2.St → Hp → Prop, (∀ σ' ρ' G' H', Ex G G' → RE K F G' H' σ' ρ' → Q ρ' → Q' σ' H') → g vs σ H Q'
section
variable {K : PySem.W.Frag} {te ta tb tc : TE} {tt : TT} {t u : TS} {ts : TA} {ρ : Env} {E : EndD}
theorem ws_next (h : E.nx ρ) : WS K tNext ρ E := fun F G H σ Dn R L => L.nx σ ρ G H (Ex.refl G) R h
theorem ws_break (h : E.bk ρ) : WS K tBreak ρ E := fun F G H σ Dn R L => L.bk σ ρ G H (Ex.refl G) R h
theorem ws_cont (h : E.ct ρ) : WS K tCont ρ E := fun F G H σ Dn R L => L.ct σ ρ G H (Ex.refl G) R h
theorem ws_seq (h : WS K t ρ { E with nx := fun ρ' => WS K u ρ' E }) : WS K (tSeq t u) ρ E := fun F G H σ Dn R L =>
  h F G H σ { Dn with nx := u Dn } R ⟨fun σ' ρ' G' H' e R' q => q F G' H' σ' Dn R' (L.mono e), L.rt, L.bk, L.ct, L.ro⟩
theorem ws_drop (h : EvW K te ρ fun _ ρ' => E.nx ρ') : WS K (tDrop te) ρ E := fun F G H σ Dn R L => h F G H σ R _ fun v d ρ' G' H' e R' _ q => L.nx σ ρ' G' H' e R' q
theorem ws_ret (h : EvW K te ρ fun d ρ' => E.rt d ρ') : WS K (tRet te) ρ E := fun F G H σ Dn R L => h F G H σ R _ fun v d ρ' G' H' e R' hv q => L.rt v d σ ρ' G' H' e R' hv q
theorem ws_retN (h : E.rt .non ρ) : WS K tRetN ρ E := fun F G H σ Dn R L => L.rt .non .non σ ρ G H (Ex.refl G) R .non h
/-- a new object is handed back, the caller's own -/
theorem ws_retNew (h : EvN K te ρ fun d ρ' => E.ro d ρ') : WS K (tRet te) ρ E := fun F G H σ Dn R L => h F G H σ R _ fun p d ρ' G' H' e R' hG hF hO o q => L.ro p d σ ρ' G' H' e R' hG hF hO o q
theorem ws_retOwn {i : Nat} {a : Addr} {d : D} (hi : ρ[i]? = some (.own a d)) (h : E.ro d (ρ.set i .un)) : WS K (tRet (tVar i)) ρ E := fun F G H σ Dn R L => by
  obtain ⟨s, hσ, rfl, hG, hF, ho⟩ := R.sl.get hi
  refine ⟨.ref a, hσ, L.ro a d σ _ G H (Ex.refl G) ⟨R.wd, ?_, List.Nodup.sublist (ownA_setr (r' := .un) (List.nil_sublist _) hi) R.nd⟩ hG hF (fun m => ?_) ho h⟩
  · exact R.sl.but hσ (r' := .un) trivial fun j s r n h1 h2 q => q
  · obtain ⟨r, hr, m⟩ := List.mem_flatMap.mp m
    obtain ⟨j, hj⟩ := List.mem_iff_getElem?.mp hr
    by_cases e : j = i
    · subst e
      obtain ⟨hl, _⟩ := List.getElem?_eq_some_iff.mp hi
      rw [List.getElem?_set_self hl] at hj
      cases hj
      cases m
    · rw [List.getElem?_set_ne (Ne.symm e)] at hj
      exact nodup_apart R.nd hi hj (Ne.symm e) (List.mem_singleton.mpr rfl) m
/-- the own object is handed back -/
theorem ws_retO {i : Nat} {a : Addr} {d : D} (hi : ρ[i]? = some (.own a d)) (h : E.rt d (ρ.set i (.sh d))) : WS K (tRet (tVar i)) ρ E := fun F G H σ Dn R L => by
  obtain ⟨o, hσ, _, hG, R', rp⟩ := R.give hi
  exact ⟨.ref a, hσ, L.rt _ d σ _ _ H (Ex.new hG) R' rp h⟩
theorem ws_if (h : EvT K tt ρ fun b ρ' => if b = true then WS K t ρ' E else WS K u ρ' E) : WS K (tIfS tt t u) ρ E := fun F G H σ Dn R L => h F G H σ R _ fun b ρ' G' H' e R' q => by
  cases b with
  | true => exact q F G' H' σ Dn R' (L.mono e)
  | false => exact q F G' H' σ Dn R' (L.mono e)
theorem gw_name {i : Nat} {d : D} {Q : Env → Prop} (h : Q (ρ.set i (.sh d))) : GW K (gName i) d ρ Q := fun F G H σ v R hv Q' k => k _ _ G H (Ex.refl G) (R.setSh hv i) h
theorem gws_nil {Q : Env → Prop} (h : Q ρ) : GWs K gNil [] ρ Q := fun F G H σ vs R hv Q' k => ⟨hv.nil_inv, k σ ρ G H (Ex.refl G) R h⟩
theorem gws_cons {g : TG} {gs : TGs} {d : D} {ds : List D} {Q : Env → Prop} (h : GW K g d ρ fun ρ1 => GWs K gs ds ρ1 Q) : GWs K (gCons g gs) (d :: ds) ρ Q := fun F G H σ vs R hv Q' k => by
  obtain ⟨v, ws, rfl, h1, h2⟩ := hv.cons_inv
  exact ⟨v, ws, rfl, h F G H σ v R h1 _ fun σ1 ρ1 G1 H1 e1 R1 q1 => q1 F G1 H1 σ1 ws R1 (h2.mono e1) Q' fun σ2 ρ2 G2 H2 e2 R2 q2 => k σ2 ρ2 G2 H2 (e1.trans e2) R2 q2⟩
theorem rep_tup {H : Hp} {v : V} {ds : List D} (h : Rep K H v (.tup ds)) : ∃ a vs, v = .ref a ∧ SqT K H a vs ∧ Reps K H vs ds := by
  cases h with | tup a b => exact ⟨_, _, rfl, a, b⟩
theorem rep_lst {H : Hp} {v : V} {ds : List D} (h : Rep K H v (.lst ds)) : ∃ a vs, v = .ref a ∧ H a = some (.lst vs) ∧ Reps K H vs ds := by
  cases h with | lst a b => exact ⟨_, _, rfl, a, b⟩
theorem rep_dk {H : Hp} {v : V} {ps : List (Key × D)} (h : Rep K H v (.dk ps)) : ∃ a kvs, v = .ref a ∧ Rd H a (.dK kvs) ∧ kvs.map (·.1) = ps.map (·.1) ∧ Reps K H (kvs.map (·.2)) (ps.map (·.2)) := by
  cases h with | dk a b c => exact ⟨_, _, rfl, a, b, c⟩
theorem rep_dt {H : Hp} {v : V} {ps : List (List Key × D)} (h : Rep K H v (.dt ps)) : ∃ a kvs, v = .ref a ∧ Rd H a (.dT kvs) ∧ kvs.map (·.1) = ps.map (·.1) ∧ Reps K H (kvs.map (·.2)) (ps.map (·.2)) := by
  cases h with | dt a b c => exact ⟨_, _, rfl, a, b, c⟩
theorem rep_ins {H : Hp} {v : V} {C : Str} {ps : List (Str × D)} (h : Rep K H v (.ins C ps)) : ∃ a dx fs, v = .ref a ∧ H a = some (.ins (He.ga K C) dx fs) ∧ fs.map (·.1) = ps.map (·.1) ∧ Reps K H (fs.map (·.2)) (ps.map (·.2)) := by
  cases h with | ins a b c => exact ⟨_, _, _, rfl, a, b, c⟩
theorem Ex.sqT {H H' : Hp} {a : Addr} {xs : List V} (e : Ex H H') (h : SqT K H a xs) : SqT K H' a xs := e.rdx.sqT h
theorem gw_tup {n : Nat} {gs : TGs} {ds : List D} {Q : Env → Prop} (hn : ds.length = n) (h : GWs K gs ds ρ Q) : GW K (gTup K n gs) (.tup ds) ρ Q := fun F G H σ v R hv Q' k => by
  obtain ⟨a, vs, rfl, h1, h2⟩ := rep_tup hv
  exact ⟨a, vs, rfl, R.wd.g.sqT h1, by rw [h2.length]; exact hn, h F G H σ vs R h2 Q' k⟩
theorem ws_asg {g : TG} (h : EvW K te ρ fun d ρ1 => GW K g d ρ1 E.nx) : WS K (tAsg te g) ρ E := fun F G H σ Dn R L => h F G H σ R _ fun v d ρ1 G1 H1 e1 R1 hv q =>
  q F G1 H1 σ v R1 hv _ fun σ2 ρ2 G2 H2 e2 R2 q2 => L.nx σ2 ρ2 G2 H2 (e1.trans e2) R2 q2
theorem ownA_set_own {r : Sl} : ∀ {ρ : Env} (i : Nat), (ownA ρ).Nodup → r.adr.Nodup → (∀ a ∈ r.adr, a ∉ ownA ρ) → (ownA (ρ.set i r)).Nodup ∧ ∀ b, b ∈ ownA (ρ.set i r) → b ∈ r.adr ∨ b ∈ ownA ρ
  | [], _, h, _, _ => ⟨h, fun b m => .inr m⟩
  | r0 :: ρ, 0, h, h1, h2 => by
    show (ownA (r :: ρ)).Nodup ∧ ∀ b, b ∈ ownA (r :: ρ) → _
    rw [ownA_cons] at h h2
    rw [ownA_cons]
    refine ⟨List.nodup_append.mpr ⟨h1, (List.nodup_append.mp h).2.1, fun a m b m' e => h2 a m (by rw [e]; exact List.mem_append_right _ m')⟩, fun b m => ?_⟩
    rw [ownA_cons]
    exact (List.mem_append.mp m).imp id (List.mem_append_right _)
  | r0 :: ρ, i + 1, h, h1, h2 => by
    show (ownA (r0 :: ρ.set i r)).Nodup ∧ ∀ b, b ∈ ownA (r0 :: ρ.set i r) → _
    rw [ownA_cons] at h h2
    rw [ownA_cons, ownA_cons]
    obtain ⟨n1, n2, n3⟩ := List.nodup_append.mp h
    obtain ⟨ih1, ih2⟩ := ownA_set_own (ρ := ρ) i n2 h1 (fun a m z => h2 a m (List.mem_append_right _ z))
    refine ⟨List.nodup_append.mpr ⟨n1, ih1, fun a m b m' e => ?_⟩, fun b m => ?_⟩
    · rcases ih2 b m' with z | z
      · exact h2 b z (List.mem_append_left _ (e ▸ m))
      · exact n3 a m b z e
    · rcases List.mem_append.mp m with m | m
      · exact .inr (List.mem_append_left _ m)
      · exact (ih2 b m).imp id (List.mem_append_right _)
theorem RE.setOwn {F G H : Hp} {σ : L2.St} {ρ : Env} {p : Addr} {d : D} (R : RE K F G H σ ρ) (hG : G p = none) (hF : F p = none) (hO : p ∉ ownA ρ) (o : OwnR K G (H p) d) (i : Nat) : RE K F G H (σ.set i (some (.ref p))) (ρ.set i (.own p d)) :=
  ⟨R.wd, R.sl.set (r := .own p d) ⟨rfl, hG, hF, o⟩ i, (ownA_set_own (r := .own p d) i R.nd (show [p].Nodup from List.nodup_cons.mpr ⟨List.not_mem_nil, List.nodup_nil⟩) (fun a m => by rw [List.mem_singleton.mp m]; exact hO)).1⟩
/-- a new object is given a name: it is the def's own -/
theorem ws_asgN {i : Nat} (h : EvN K te ρ fun d ρ1 => ∀ p, E.nx (ρ1.set i (.own p d))) : WS K (tAsg te (gName i)) ρ E := fun F G H σ Dn R L => h F G H σ R _ fun p d ρ1 G1 H1 e1 R1 hG hF hO o q =>
  L.nx _ _ G1 H1 e1 (R1.setOwn hG hF hO o i) (q p)
end
end DL

set_option Elab.async false
set_option linter.all false
set_option maxRecDepth 100000
namespace DL
open PySem L2
/-! ### derivations that serve several kinds -/
theorem pe_or {X : Cx} {e : Expr} {t u : TE} (h : PE X e t) (h' : PE X e u) : PE X e (fun σ H Q => t σ H Q ∨ u σ H Q) :=
  ⟨fun pins s σ H Q I q => q.elim (fun q => h.run pins s σ H Q I q) fun q => h'.run pins s σ H Q I q⟩
section
variable {K : PySem.W.Frag} {te ta tb tc : TE} {tt tu : TT} {ts : TA} {ρ : Env} {Q : D → Env → Prop}
theorem ew_inl {t u : TE} (h : EvW K t ρ Q) : EvW K (fun σ H Q => t σ H Q ∨ u σ H Q) ρ Q := fun F G H σ R Q' k => .inl (h F G H σ R Q' k)
theorem ew_inr {t u : TE} (h : EvW K u ρ Q) : EvW K (fun σ H Q => t σ H Q ∨ u σ H Q) ρ Q := fun F G H σ R Q' k => .inr (h F G H σ R Q' k)
theorem op2_inl {r r' : R2} {x y : D} (h : Op2 K r x y ρ Q) : Op2 K (fun x y H Q => r x y H Q ∨ r' x y H Q) x y ρ Q := fun F G H σ R v w hv hw Q' k => .inl (h F G H σ R v w hv hw Q' k)
theorem op2_inr {r r' : R2} {x y : D} (h : Op2 K r' x y ρ Q) : Op2 K (fun x y H Q => r x y H Q ∨ r' x y H Q) x y ρ Q := fun F G H σ R v w hv hw Q' k => .inr (h F G H σ R v w hv hw Q' k)
theorem opa_inl {r r' : List V → Hp → VK → Prop} {xs : List D} (h : OpA K r xs ρ Q) : OpA K (fun xs H Q => r xs H Q ∨ r' xs H Q) xs ρ Q := fun F G H σ R v hv Q' k => .inl (h F G H σ R v hv Q' k)
theorem opa_inr {r r' : List V → Hp → VK → Prop} {xs : List D} (h : OpA K r' xs ρ Q) : OpA K (fun xs H Q => r xs H Q ∨ r' xs H Q) xs ρ Q := fun F G H σ R v hv Q' k => .inr (h F G H σ R v hv Q' k)
/-! ### numbers -/
theorem op2_int {f : Int → Int → Int} {i j : Int} (q : Q (.int (f i j)) ρ) : Op2 K (rI0 fun i j => .int (f i j)) (.int i) (.int j) ρ Q := fun F G H σ R v w hv hw Q' k =>
  ⟨i, j, rep_int hv, rep_int hw, k _ _ ρ G H (Ex.refl G) R (.int _) q⟩
theorem op2_intC {C : Int → Int → Prop} {f : Int → Int → Int} {i j : Int} (c : C i j) (q : Q (.int (f i j)) ρ) : Op2 K (rI C fun i j => .int (f i j)) (.int i) (.int j) ρ Q := fun F G H σ R v w hv hw Q' k =>
  ⟨i, j, rep_int hv, rep_int hw, c, k _ _ ρ G H (Ex.refl G) R (.int _) q⟩
theorem op2_cmp {f : Int → Int → Bool} {i j : Int} (q : Q (.bl (f i j)) ρ) : Op2 K (rI0 fun i j => .bl (f i j)) (.int i) (.int j) ρ Q := fun F G H σ R v w hv hw Q' k =>
  ⟨i, j, rep_int hv, rep_int hw, k _ _ ρ G H (Ex.refl G) R (.bl _) q⟩
theorem op1_neg {i : Int} (q : Q (.int (-i)) ρ) : Op1 K (rU fun i => .int (-i)) (.int i) ρ Q := fun F G H σ R v hv Q' k => ⟨i, rep_int hv, k _ _ ρ G H (Ex.refl G) R (.int _) q⟩
/-! ### == of plain things -/
theorem op2_eq_int {i j : Int} (q : Q (.bl (decide (i = j))) ρ) : Op2 K rEq (.int i) (.int j) ρ Q := fun F G H σ R v w hv hw Q' k => by
  rw [rep_int hv, rep_int hw]
  refine ⟨rfl, ?_⟩
  have e : decide (V.int i = V.int j) = decide (i = j) := by simp
  rw [e]; exact k _ _ ρ G H (Ex.refl G) R (.bl _) q
theorem op2_eq_str {i j : Str} (q : Q (.bl (decide (i = j))) ρ) : Op2 K rEq (.str i) (.str j) ρ Q := fun F G H σ R v w hv hw Q' k => by
  rw [rep_str hv, rep_str hw]
  refine ⟨rfl, ?_⟩
  have e : decide (V.str i = V.str j) = decide (i = j) := by simp
  rw [e]; exact k _ _ ρ G H (Ex.refl G) R (.bl _) q
theorem op2_eq_bl {i j : Bool} (q : Q (.bl (decide (i = j))) ρ) : Op2 K rEq (.bl i) (.bl j) ρ Q := fun F G H σ R v w hv hw Q' k => by
  rw [rep_bl hv, rep_bl hw]
  refine ⟨rfl, ?_⟩
  have e : decide (V.bl i = V.bl j) = decide (i = j) := by simp
  rw [e]; exact k _ _ ρ G H (Ex.refl G) R (.bl _) q
theorem op2_ne_int {i j : Int} (q : Q (.bl (!decide (i = j))) ρ) : Op2 K rNe (.int i) (.int j) ρ Q := fun F G H σ R v w hv hw Q' k => by
  rw [rep_int hv, rep_int hw]
  refine ⟨rfl, ?_⟩
  have e : decide (V.int i = V.int j) = decide (i = j) := by simp
  rw [e]; exact k _ _ ρ G H (Ex.refl G) R (.bl _) q
theorem op2_ne_bl {i j : Bool} (q : Q (.bl (!decide (i = j))) ρ) : Op2 K rNe (.bl i) (.bl j) ρ Q := fun F G H σ R v w hv hw Q' k => by
  rw [rep_bl hv, rep_bl hw]
  refine ⟨rfl, ?_⟩
  have e : decide (V.bl i = V.bl j) = decide (i = j) := by simp
  rw [e]; exact k _ _ ρ G H (Ex.refl G) R (.bl _) q
def D.isNon : D → Bool
  | .non => true
  | _ => false
/-- x is None -/
theorem op2_isN {x : D} (q : Q (.bl x.isNon) ρ) : Op2 K (fun x y H Q => y = .non ∧ Q (.bl (decide (x = .non))) H) x .non ρ Q := fun F G H σ R v w hv hw Q' k => by
  refine ⟨rep_non hw, ?_⟩
  have e : decide (v = V.non) = x.isNon := by
    cases hv <;> first | rfl | exact decide_eq_false (fun z => nomatch z)
  rw [e]; exact k _ _ ρ G H (Ex.refl G) R (.bl _) q
/-! ### isinstance -/
def D.ty : D → String
  | .non => "NoneType" | .bl _ => "bool" | .int _ => "int" | .str _ => "str" | .lst _ => "list" | .tup _ => "tuple" | .dk _ => "dict" | .dt _ => "dict" | .ins _ _ => "?" | .scr _ => "?"
/-- no object of one's own -/
def D.plain : D → Bool
  | .ins _ _ => false
  | .dt _ => false
  | .scr _ => false
  | _ => true
def tyIs (t n : String) : Bool := t == n || (t == "bool" && n == "int")
def tyNames : List String := ["bool", "int", "str", "list", "tuple", "dict"]
theorem rd_tyX {H : Hp} {v : V} {d : D} (hp : d.plain = true) (h : Rep K H v d) : TyX K H v (.type d.ty) := by
  cases h with
  | non => exact .base .non
  | bl b => exact .base (.bl b)
  | int b => exact .base (.int b)
  | str b => exact .base (.str b)
  | lst a b => exact .base (.lst a)
  | tup a b =>
    rcases a with (a | ⟨o, a⟩) | ⟨o, its, n, a, c, _⟩
    · exact .base (.tup a)
    · exact .fTuple a
    · exact .kTuple a c
  | dk a b c =>
    rcases a with a | ⟨o, a⟩
    · exact .base (.dK a)
    · exact .fDict a
  | dt a b c => cases hp
  | ins a b c => cases hp
  | scr a => cases hp
theorem kit_names : ∀ t ∈ ["NoneType", "bool", "int", "str", "list", "tuple", "dict"], ∀ n ∈ tyNames, kitB t n = some (tyIs t n) := by decide +kernel
theorem kit_d {d : D} (hp : d.plain = true) {n : String} (hn : n ∈ tyNames) : PySem.W.kitOne K (.type d.ty) (.type n) = some (tyIs d.ty n) :=
  kit_ty (kit_names d.ty (by cases d <;> first | (simp [D.ty]; done) | cases hp) n hn)
theorem ew_isi {n : String} (hn : n ∈ tyNames) (h : EvW K te ρ fun d ρ1 => d.plain = true ∧ Q (.bl (tyIs d.ty n)) ρ1) : EvW K (tCB (rIsi K) (tCons te (tCons (tC (.ty n)) tNil))) ρ Q := fun F G H σ R Q' k =>
  h F G H σ R _ fun v d ρ1 G1 H1 e1 R1 hv q => ⟨v, .ty n, _, .type n, _, rfl, .ty n, rd_tyX q.1 (hv.mono R1.wd.g), kit_d q.1 hn, k _ _ ρ1 G1 H1 e1 R1 (.bl _) q.2⟩
theorem kitAny_names {d : D} (hp : d.plain = true) : ∀ (ns : List String), (∀ n ∈ ns, n ∈ tyNames) → PySem.W.kitAny K (.type d.ty) (ns.map Value.type) = some (ns.any fun n => tyIs d.ty n)
  | [], _ => kitAny_nil
  | n :: ns, h => by
    refine kitAny_cons (kit_d hp (h n List.mem_cons_self)) (fun e => ?_) (fun e => ?_)
    · rw [kitAny_names hp ns (fun m hm => h m (List.mem_cons_of_mem _ hm)), List.any_cons, e, Bool.false_or]
    · rw [List.any_cons, e, Bool.true_or]
/-- isinstance(x, (list, tuple)) -/
theorem ew_isi2 {n m : String} (hn : n ∈ tyNames) (hm : m ∈ tyNames) (h : EvW K te ρ fun d ρ1 => d.plain = true ∧ Q (.bl (tyIs d.ty n || tyIs d.ty m)) ρ1) :
    EvW K (tCB (rIsiT K) (tCons te (tCons (tTup (tCons (tC (.ty n)) (tCons (tC (.ty m)) tNil))) tNil))) ρ Q := fun F G H σ R Q' k =>
  h F G H σ R _ fun v d ρ1 G1 H1 e1 R1 hv q => ⟨by show 2 ≤ sizeLine; decide, fun p hp => by
    have e2 : Ex G1 (upd G1 p (.tup [.ty n, .ty m])) := Ex.new (R1.wd.g.none hp)
    have R2 := R1.new (o := .tup [.ty n, .ty m]) hp
    refine ⟨v, p, [.ty n, .ty m], _, [.type n, .type m], _, rfl, upd_same, .cons (.ty n) (.cons (.ty m) .nil), rd_tyX q.1 ((hv.mono e2).mono R2.wd.g), kitAny_names q.1 [n, m] ?_, ?_⟩
    · intro x hx
      simp at hx
      rcases hx with rfl | rfl
      · exact hn
      · exact hm
    · refine k _ _ ρ1 _ _ (e1.trans e2) R2 (.bl _) ?_
      have e : ([n, m].any fun z => tyIs d.ty z) = (tyIs d.ty n || tyIs d.ty m) := by simp
      rw [e]; exact q.2⟩
theorem ew_isi4 {n m o l : String} (hn : n ∈ tyNames) (hm : m ∈ tyNames) (ho : o ∈ tyNames) (hl : l ∈ tyNames) (h : EvW K te ρ fun d ρ1 => d.plain = true ∧ Q (.bl (tyIs d.ty n || (tyIs d.ty m || (tyIs d.ty o || tyIs d.ty l)))) ρ1) :
    EvW K (tCB (rIsiT K) (tCons te (tCons (tTup (tCons (tC (.ty n)) (tCons (tC (.ty m)) (tCons (tC (.ty o)) (tCons (tC (.ty l)) tNil))))) tNil))) ρ Q := fun F G H σ R Q' k =>
  h F G H σ R _ fun v d ρ1 G1 H1 e1 R1 hv q => ⟨by show 4 ≤ sizeLine; decide, fun p hp => by
    have e2 : Ex G1 (upd G1 p (.tup [.ty n, .ty m, .ty o, .ty l])) := Ex.new (R1.wd.g.none hp)
    have R2 := R1.new (o := .tup [.ty n, .ty m, .ty o, .ty l]) hp
    refine ⟨v, p, [.ty n, .ty m, .ty o, .ty l], _, [.type n, .type m, .type o, .type l], _, rfl, upd_same, .cons (.ty n) (.cons (.ty m) (.cons (.ty o) (.cons (.ty l) .nil))), rd_tyX q.1 ((hv.mono e2).mono R2.wd.g), kitAny_names q.1 [n, m, o, l] ?_, ?_⟩
    · intro x hx
      simp at hx
      rcases hx with rfl | rfl | rfl | rfl <;> assumption
    · refine k _ _ ρ1 _ _ (e1.trans e2) R2 (.bl _) ?_
      have e : ([n, m, o, l].any fun z => tyIs d.ty z) = (tyIs d.ty n || (tyIs d.ty m || (tyIs d.ty o || tyIs d.ty l))) := by simp
      rw [e]; exact q.2⟩
/-! ### len -/
def rLenU (K : PySem.W.Frag) : List V → Hp → VK → Prop := fun xs H Q => ((∃ p ys, xs = [.ref p] ∧ (SqL K H p ys ∨ SqT K H p ys) ∧ Q (.int ys.length) H) ∨ ∃ z, xs = [.str z] ∧ z.length ≤ sizeLine ∧ Q (.int z.length) H) ∨ ∃ a kvs, xs = [V.ref a] ∧ H a = some (.dK kvs) ∧ Q (.int kvs.length) H
theorem call_lenU {X : Cx} : CallR X (.builtin "len") (rLenU X.K) := CallR.or (CallR.or call_len_seq call_len_str) call_lenD
theorem opa_len_lst {xs : List D} (q : Q (.int xs.length) ρ) : OpA K (rLenU K) [.lst xs] ρ Q := fun F G H σ R vs hv Q' k => by
  obtain ⟨v, rfl, h⟩ := hv.one
  obtain ⟨a, ws, rfl, h1, h2⟩ := rep_lst h
  refine .inl (.inl ⟨a, ws, rfl, .inl (.inl (.inl (R.wd.g _ _ h1))), ?_⟩)
  rw [h2.length]; exact k _ _ ρ G H (Ex.refl G) R (.int _) q
theorem opa_len_tup {xs : List D} (q : Q (.int xs.length) ρ) : OpA K (rLenU K) [.tup xs] ρ Q := fun F G H σ R vs hv Q' k => by
  obtain ⟨v, rfl, h⟩ := hv.one
  obtain ⟨a, ws, rfl, h1, h2⟩ := rep_tup h
  refine .inl (.inl ⟨a, ws, rfl, .inr (R.wd.g.sqT h1), ?_⟩)
  rw [h2.length]; exact k _ _ ρ G H (Ex.refl G) R (.int _) q
theorem opa_len_str {x : Str} (hx : x.length ≤ 100000) (q : Q (.int x.length) ρ) : OpA K (rLenU K) [.str x] ρ Q := fun F G H σ R vs hv Q' k => by
  obtain ⟨v, rfl, h⟩ := hv.one
  rw [rep_str h]
  exact .inl (.inr ⟨x, rfl, big hx, k _ _ ρ G H (Ex.refl G) R (.int _) q⟩)
/-! ### all, any of a list of bools -/
theorem reps_bls {H : Hp} : ∀ {vs : List V} {bs : List Bool}, Reps K H vs (bs.map D.bl) → vs = bs.map V.bl
  | _, [], h => h.nil_inv
  | _, b :: bs, h => by
    obtain ⟨v, ws, rfl, h1, h2⟩ := h.cons_inv
    rw [rep_bl h1, reps_bls h2]; rfl
theorem opa_all {bs : List Bool} (q : Q (.bl (bs.all id)) ρ) : OpA K (rAll K) [.lst (bs.map D.bl)] ρ Q := fun F G H σ R vs hv Q' k => by
  obtain ⟨v, rfl, h⟩ := hv.one
  obtain ⟨a, ws, rfl, h1, h2⟩ := rep_lst h
  rw [reps_bls h2] at h1
  exact ⟨a, bs, rfl, .inl (.inl (R.wd.g _ _ h1)), k _ _ ρ G H (Ex.refl G) R (.bl _) q⟩
/-! ### walks -/
/-- an iterator that gives the data ds, while what is shared at G stands -/
structure Yields (K : PySem.W.Frag) (G : Hp) (J : It) (ds : List D) : Prop where
  go : ∀ F G2 H2 σ ρ i, Ex G G2 → RE K F G2 H2 σ ρ → i < ds.length → J.go i H2
  stop : ∀ F G2 H2 σ ρ, Ex G G2 → RE K F G2 H2 σ ρ → J.stop ds.length H2
  yld : ∀ F G2 H2 σ ρ i x H3, Ex G G2 → RE K F G2 H2 σ ρ → i < ds.length → J.yld i H2 x H3 → ∃ G3 d, Ex G2 G3 ∧ RE K F G3 H3 σ ρ ∧ ds[i]? = some d ∧ Rep K G3 x d
def EvI (K : PySem.W.Frag) (wi : TI) (ρ : Env) (Q : List D → Env → Prop) : Prop := ∀ F G H σ, RE K F G H σ ρ → ∀ R' : It → Hp → Prop,
  (∀ J ds ρ' G' H', Ex G G' → RE K F G' H' σ ρ' → Yields K G' J ds → Q ds ρ' → R' J H') → wi σ H R'
theorem reps_at {H : Hp} {vs : List V} {ds : List D} {i : Nat} {x : V} (h : Reps K H vs ds) (e : vs[i]? = some x) : ∃ d, ds[i]? = some d ∧ Rep K H x d := h.getV e
theorem yl_list {G : Hp} {a : Addr} {vs : List V} {ds : List D} (h1 : G a = some (.lst vs)) (h2 : Reps K G vs ds) : Yields K G (Itl K a) ds where
  go := fun F G2 H2 σ ρ i e R hi => ⟨vs, vs[i]'(by rw [h2.length]; exact hi), .inl (.inl (R.wd.g _ _ (e _ _ h1))), by rw [List.getElem?_eq_getElem]⟩
  stop := fun F G2 H2 σ ρ e R => ⟨vs, .inl (.inl (R.wd.g _ _ (e _ _ h1))), by rw [h2.length]; exact Nat.le_refl _⟩
  yld := fun F G2 H2 σ ρ i x H3 e R hi y => by
    obtain ⟨rfl, y⟩ := y
    obtain ⟨d, hd, hx⟩ := h2.getV (y vs (.inl (.inl (R.wd.g _ _ (e _ _ h1)))))
    exact ⟨G2, d, Ex.refl _, R, hd, hx.mono e⟩
theorem yl_tup {G : Hp} {a : Addr} {vs : List V} {ds : List D} (h1 : SqT K G a vs) (h2 : Reps K G vs ds) : Yields K G (Itt K a) ds where
  go := fun F G2 H2 σ ρ i e R hi => ⟨vs, vs[i]'(by rw [h2.length]; exact hi), R.wd.g.sqT (e.sqT h1), by rw [List.getElem?_eq_getElem]⟩
  stop := fun F G2 H2 σ ρ e R => ⟨vs, R.wd.g.sqT (e.sqT h1), by rw [h2.length]; exact Nat.le_refl _⟩
  yld := fun F G2 H2 σ ρ i x H3 e R hi y => by
    obtain ⟨rfl, y⟩ := y
    obtain ⟨d, hd, hx⟩ := h2.getV (y vs (R.wd.g.sqT (e.sqT h1)))
    exact ⟨G2, d, Ex.refl _, R, hd, hx.mono e⟩
theorem yl_range {G : Hp} {lo : Int} {n : Nat} : Yields K G (Itr lo n) ((List.range n).map fun (i : Nat) => D.int (lo + (i : Int))) where
  go := fun F G2 H2 σ ρ i e R hi => by
    show i < n
    simpa using hi
  stop := fun F G2 H2 σ ρ e R => by
    show n ≤ _
    simp
  yld := fun F G2 H2 σ ρ i x H3 e R hi y => by
    obtain ⟨rfl, rfl⟩ := y
    have hi' : i < n := by simpa using hi
    exact ⟨G2, .int (lo + i), Ex.refl _, R, by simp [hi'], .int _⟩
theorem yl_str {G : Hp} {x : Str} : Yields K G (Its x) (x.cps.toList.map fun c => D.str ⟨#[c]⟩) where
  go := fun F G2 H2 σ ρ i e R hi => by
    show i < x.cps.size
    simpa using hi
  stop := fun F G2 H2 σ ρ e R => by
    show x.cps.size ≤ _
    simp
  yld := fun F G2 H2 σ ρ i v H3 e R hi y => by
    obtain ⟨rfl, c, hc, rfl⟩ := y
    refine ⟨G2, .str ⟨#[c]⟩, Ex.refl _, R, ?_, .str _⟩
    rw [List.getElem?_map, Array.getElem?_toList, hc]; rfl
/-- the walk of a list or a tuple: both derivations -/
theorem pi_or {X : Cx} {tg it : Expr} {w w' : TI} (h : PI X tg it w) (h' : PI X tg it w') : PI X tg it (fun σ H R => w σ H R ∨ w' σ H R) :=
  ⟨fun pins s σ H R I q => q.elim (fun q => h.run pins s σ H R I q) fun q => h'.run pins s σ H R I q⟩
theorem ei_inl {w w' : TI} {Q : List D → Env → Prop} (h : EvI K w ρ Q) : EvI K (fun σ H R => w σ H R ∨ w' σ H R) ρ Q := fun F G H σ R R' k => .inl (h F G H σ R R' k)
theorem ei_inr {w w' : TI} {Q : List D → Env → Prop} (h : EvI K w' ρ Q) : EvI K (fun σ H R => w σ H R ∨ w' σ H R) ρ Q := fun F G H σ R R' k => .inr (h F G H σ R R' k)
theorem ei_list {Q : List D → Env → Prop} (h : EvW K te ρ fun d ρ1 => ∃ ds, d = .lst ds ∧ Q ds ρ1) : EvI K (iList K te) ρ Q := fun F G H σ R R' k =>
  h F G H σ R _ fun v d ρ1 G1 H1 e1 R1 hv q => by
    obtain ⟨ds, rfl, q⟩ := q
    obtain ⟨a, vs, rfl, h1, h2⟩ := rep_lst hv
    exact ⟨a, rfl, ⟨vs, .inl (.inl (R1.wd.g _ _ h1))⟩, k _ ds ρ1 G1 H1 e1 R1 (yl_list h1 h2) q⟩
theorem ei_tup {Q : List D → Env → Prop} (h : EvW K te ρ fun d ρ1 => ∃ ds, d = .tup ds ∧ Q ds ρ1) : EvI K (iTup K te) ρ Q := fun F G H σ R R' k =>
  h F G H σ R _ fun v d ρ1 G1 H1 e1 R1 hv q => by
    obtain ⟨ds, rfl, q⟩ := q
    obtain ⟨a, vs, rfl, h1, h2⟩ := rep_tup hv
    exact ⟨a, rfl, ⟨vs, R1.wd.g.sqT h1⟩, k _ ds ρ1 G1 H1 e1 R1 (yl_tup h1 h2) q⟩
theorem ei_str {Q : List D → Env → Prop} (h : EvW K te ρ fun d ρ1 => ∃ x, d = .str x ∧ Q (x.cps.toList.map fun c => D.str ⟨#[c]⟩) ρ1) : EvI K (iStr te) ρ Q := fun F G H σ R R' k =>
  h F G H σ R _ fun v d ρ1 G1 H1 e1 R1 hv q => by
    obtain ⟨x, rfl, q⟩ := q
    rw [rep_str hv]
    exact ⟨x, rfl, k _ _ ρ1 G1 H1 e1 R1 yl_str q⟩
theorem ei_range1 {Q : List D → Env → Prop} (h : EvA K ts ρ fun ds ρ1 => ∃ j : Int, ds = [.int j] ∧ -100000 ≤ j ∧ j ≤ 100000 ∧ Q ((List.range j.toNat).map fun (i : Nat) => D.int (0 + (i : Int))) ρ1) : EvI K (iRng1 ts) ρ Q := fun F G H σ R R' k =>
  h F G H σ R _ fun vs ds ρ1 G1 H1 e1 R1 hv q => by
    obtain ⟨j, rfl, h1, h2, q⟩ := q
    obtain ⟨v, rfl, hv1⟩ := hv.one
    rw [rep_int hv1]
    exact ⟨j, rfl, by omega, by omega, k _ _ ρ1 G1 H1 e1 R1 yl_range q⟩
/-- for -/
theorem ws_for {wi : TI} {g : TG} {t : TS} {E : EndD} (h : EvI K wi ρ fun ds ρ1 => ∃ P : Nat → Env → Prop, P 0 ρ1 ∧
      (∀ i d ρ', ds[i]? = some d → P i ρ' → GW K g d ρ' fun ρ2 => WS K t ρ2 { E with nx := P (i + 1), ct := P (i + 1), bk := E.nx }) ∧ ∀ ρ', P ds.length ρ' → E.nx ρ') : WS K (tFor wi g t) ρ E := fun F G H σ Dn R L =>
  h F G H σ R _ fun J ds ρ1 G1 H1 e1 R1 Y q => by
    obtain ⟨P, p0, turn, fin⟩ := q
    refine ⟨fun i m σ' H' => m + i = ds.length ∧ ∃ ρ' G', Ex G1 G' ∧ RE K F G' H' σ' ρ' ∧ P i ρ', ⟨ds.length, rfl, ρ1, G1, Ex.refl _, R1, p0⟩, ?_⟩
    rintro i m σ' H' ⟨hm, ρ', G', e', R', p⟩
    by_cases hi : i < ds.length
    · refine .inr ⟨Y.go F G' H' σ' ρ' i e' R' hi, fun σ2 H2 => ∃ ρ2 G2, Ex G1 G2 ∧ RE K F G2 H2 σ2 ρ2 ∧ P (i + 1) ρ2, fun σ2 H2 z => ⟨m - 1, by omega, by omega, z⟩, fun x H2 y => ?_⟩
      obtain ⟨G2, d, e2, R2, hd, hx⟩ := Y.yld F G' H' σ' ρ' i x H2 e' R' hi y
      refine turn i d ρ' hd p F G2 H2 σ' x R2 hx _ fun σ3 ρ3 G3 H3 e3 R3 w3 => ?_
      refine w3 F G3 H3 σ3 _ R3 ⟨fun σ4 ρ4 G4 H4 e4 R4 p4 => ⟨ρ4, G4, ((e'.trans e2).trans e3).trans e4, R4, p4⟩, fun v d σ4 ρ4 G4 H4 e4 R4 hv r4 => ?_, fun σ4 ρ4 G4 H4 e4 R4 p4 => ?_, fun σ4 ρ4 G4 H4 e4 R4 p4 => ⟨ρ4, G4, ((e'.trans e2).trans e3).trans e4, R4, p4⟩, fun p d σ4 ρ4 G4 H4 e4 R4 => L.ro p d σ4 ρ4 G4 H4 ((((e1.trans e').trans e2).trans e3).trans e4) R4⟩
      · exact L.rt v d σ4 ρ4 G4 H4 ((((e1.trans e').trans e2).trans e3).trans e4) R4 hv r4
      · exact L.nx σ4 ρ4 G4 H4 ((((e1.trans e').trans e2).trans e3).trans e4) R4 p4
    · have ei : i = ds.length := by omega
      subst ei
      exact .inl ⟨Y.stop F G' H' σ' ρ' e' R', L.nx σ' ρ' G' H' (e1.trans e') R' (fin ρ' p)⟩
/-- the names of a comprehension forgotten -/
def wipeE (ρ : Env) : List Nat → Env
  | [] => ρ
  | v :: vs => (wipeE ρ vs).set v .un
theorem RE.wipe {F G H : Hp} {σ : L2.St} {ρ : Env} (R : RE K F G H σ ρ) : ∀ vs : List Nat, RE K F G H (L2.wipe σ vs) (wipeE ρ vs)
  | [] => R
  | v :: vs => (RE.wipe R vs).setUn v
theorem wipe_at : ∀ {σ : L2.St} {vs : List Nat} {i : Nat}, i ∉ vs → (L2.wipe σ vs)[i]? = σ[i]?
  | _, [], _, _ => rfl
  | σ, v :: vs, i, h => by
    show ((L2.wipe σ vs).set v none)[i]? = _
    rw [List.getElem?_set_ne (fun z => h (by rw [z]; exact List.mem_cons_self)), wipe_at fun z => h (List.mem_cons_of_mem _ z)]
theorem wipe_in : ∀ {σ : L2.St} {vs : List Nat} {i : Nat}, i ∈ vs → (L2.wipe σ vs)[i]? = if i < σ.length then some none else none
  | _, [], _, h => by cases h
  | σ, v :: vs, i, h => by
    show ((L2.wipe σ vs).set v none)[i]? = _
    by_cases e : v = i
    · subst e
      rw [List.getElem?_set]
      simp [L2.wipe_length]
    · rw [List.getElem?_set_ne e]
      rcases List.mem_cons.mp h with z | z
      · exact absurd z.symm e
      · exact wipe_in z
theorem wipeE_at : ∀ {ρ : Env} {vs : List Nat} {i : Nat}, i ∉ vs → (wipeE ρ vs)[i]? = ρ[i]?
  | _, [], _, _ => rfl
  | ρ, v :: vs, i, h => by
    show ((wipeE ρ vs).set v Sl.un)[i]? = _
    rw [List.getElem?_set_ne (fun z => h (by rw [z]; exact List.mem_cons_self)), wipeE_at fun z => h (List.mem_cons_of_mem _ z)]
theorem wipe_eq {σ σ' : L2.St} {vs : List Nat} (hl : σ'.length = σ.length) (h : ∀ i, i ∉ vs → σ'[i]? = σ[i]?) : L2.wipe σ' vs = L2.wipe σ vs := by
  apply List.ext_getElem?
  intro i
  by_cases m : i ∈ vs
  · rw [wipe_in m, wipe_in m, hl]
  · rw [wipe_at m, wipe_at m, h i m]
/-- a slot with an object of its own -/
def Sl.isOwn : Sl → Bool
  | .own _ _ => true
  | .drw _ => true
  | .two _ _ _ _ => true
  | _ => false
/-- none of the slots vs has an object of its own -/
def ownFree : Env → List Nat → Bool
  | _, [] => true
  | ρ, v :: vs => (match ρ[v]? with
    | some r => !r.isOwn
    | none => true) && ownFree ρ vs
theorem ownFree_at : ∀ {ρ : Env} {vs : List Nat}, ownFree ρ vs = true → ∀ (i : Nat) (r : Sl), ρ[i]? = some r → r.isOwn = true → i ∉ vs
  | _, [], _, _, _, _, _ => by simp
  | ρ, v :: vs, h, i, r, hr, ho => fun m => by
    unfold ownFree at h
    rw [Bool.and_eq_true] at h
    rcases List.mem_cons.mp m with e | m
    · subst e
      rw [hr] at h
      simp [ho] at h
    · exact ownFree_at h.2 i r hr ho m
theorem Slots.join {F G G' H H' : Hp} (e : Ex G G') {σ σ' : L2.St} {ρ ρ' : Env} (h : Slots K F G H σ ρ) (h' : Slots K F G' H' σ' ρ') (k : ∀ (i : Nat) (r : Sl), ρ[i]? = some r → r.isOwn = true → ρ'[i]? = some r ∧ σ'[i]? = σ[i]?) : Slots K F G' H' σ ρ :=
  h.map fun i s r hs hr q => by
    cases ho : r.isOwn with
    | true =>
      obtain ⟨z1, z2⟩ := k i r hr ho
      obtain ⟨s', h1, h2⟩ := h'.get z1
      rw [z2, hs] at h1
      cases h1
      exact h2
    | false => exact q.step e fun a m => by cases r <;> first | (cases ho; done) | (cases m; done)
section
variable {F G H : Hp} {σ : L2.St} {p : Addr} {o : HO}
theorem Slots.frm (hp : ∀ a, a ∈ ownA ρ → a ≠ p) (h : Slots K F G H σ ρ) : Slots K (upd F p o) G H σ ρ :=
  h.map fun i s r _ hr q => SlotOk.frm q fun a m => by rw [upd_ne (hp a (adr_mem hr m))]; exact (q.own m).2.1
theorem Slots.unfrm {σ : L2.St} {ρ : Env} (hF : F p = none) (h : Slots K (upd F p o) G H σ ρ) : Slots K F G H σ ρ :=
  h.map fun i s r _ hr q => SlotOk.frm q fun a m => by
    have z := (q.own m).2.1
    by_cases e : a = p
    · rw [e]; exact hF
    · rw [upd_ne e] at z; exact z
/-- an object of nobody's stands by -/
theorem RE.frm (R : RE K F G H σ ρ) (hp : H p = some o) (hG : G p = none) (hO : p ∉ ownA ρ) : RE K (upd F p o) G H σ ρ := by
  refine ⟨⟨fun a u e => ?_, R.wd.g, fun a u e => ?_⟩, R.sl.frm (fun a m z => hO (z ▸ m)), R.nd⟩
  · by_cases z : a = p
    · subst z; rw [upd_same] at e; rw [← e]; exact hp
    · rw [upd_ne z] at e; exact R.wd.f a u e
  · by_cases z : a = p
    · subst z; exact hG
    · rw [upd_ne z] at e; exact R.wd.fg a u e
theorem RE.unfrm (R : RE K (upd F p o) G H σ ρ) (hF : F p = none) : RE K F G H σ ρ ∧ H p = some o ∧ G p = none := by
  have e : upd F p o p = some o := upd_same
  refine ⟨⟨⟨fun a u q => ?_, R.wd.g, fun a u q => ?_⟩, R.sl.unfrm hF, R.nd⟩, R.wd.f p o e, R.wd.fg p o e⟩
  · exact R.wd.f a u (by rw [upd_ne (ne_of_none q hF)]; exact q)
  · exact R.wd.fg a u (by rw [upd_ne (ne_of_none q hF)]; exact q)
theorem RE.aloneU (R : RE K F G H σ ρ) (hG : G p = none) (hF : F p = none) (hO : p ∉ ownA ρ) : RE K F G (upd H p o) σ ρ := by
  refine ⟨⟨fun a u e => ?_, fun a u e => ?_, R.wd.fg⟩, R.sl.step (Ex.refl G) (fun a m => ⟨upd_ne fun z => hO (z ▸ m), (R.sl.own m).1⟩), R.nd⟩
  · rw [upd_ne (ne_of_none e hF)]; exact R.wd.f a u e
  · rw [upd_ne (ne_of_none e hG)]; exact R.wd.g a u e
end
/-- a target of a comprehension: it stores in the slots vs -/
def GV (K : PySem.W.Frag) (g : TG) (vs : List Nat) (d : D) (ρ : Env) (Q : Env → Prop) : Prop := ∀ F G H σ v, RE K F G H σ ρ → Rep K G v d → ∀ Q' : L2.St → Hp → Prop,
  (∀ σ' ρ', σ'.length = σ.length → (∀ i, i ∉ vs → σ'[i]? = σ[i]? ∧ ρ'[i]? = ρ[i]?) → RE K F G H σ' ρ' → Q ρ' → Q' σ' H) → g v σ H Q'
def GVs (K : PySem.W.Frag) (g : TGs) (vs : List Nat) (ds : List D) (ρ : Env) (Q : Env → Prop) : Prop := ∀ F G H σ ws, RE K F G H σ ρ → Reps K G ws ds → ∀ Q' : L2.St → Hp → Prop,
  (∀ σ' ρ', σ'.length = σ.length → (∀ i, i ∉ vs → σ'[i]? = σ[i]? ∧ ρ'[i]? = ρ[i]?) → RE K F G H σ' ρ' → Q ρ' → Q' σ' H) → g ws σ H Q'
theorem gv_name {i : Nat} {vs : List Nat} {d : D} {Q : Env → Prop} (hi : i ∈ vs) (h : Q (ρ.set i (.sh d))) : GV K (gName i) vs d ρ Q := fun F G H σ v R hv Q' k =>
  k _ _ (List.length_set) (fun j hj => ⟨List.getElem?_set_ne fun (z : i = j) => hj (by rw [← z]; exact hi), List.getElem?_set_ne fun (z : i = j) => hj (by rw [← z]; exact hi)⟩) (R.setSh hv i) h
theorem gvs_nil {vs : List Nat} {Q : Env → Prop} (h : Q ρ) : GVs K gNil vs [] ρ Q := fun F G H σ ws R hv Q' k => ⟨hv.nil_inv, k σ ρ rfl (fun _ _ => ⟨rfl, rfl⟩) R h⟩
theorem gvs_cons {g : TG} {gs : TGs} {vs : List Nat} {d : D} {ds : List D} {Q : Env → Prop} (h : GV K g vs d ρ fun ρ1 => GVs K gs vs ds ρ1 Q) : GVs K (gCons g gs) vs (d :: ds) ρ Q := fun F G H σ ws R hv Q' k => by
  obtain ⟨v, us, rfl, h1, h2⟩ := hv.cons_inv
  exact ⟨v, us, rfl, h F G H σ v R h1 _ fun σ1 ρ1 l1 s1 R1 q1 => q1 F G H σ1 us R1 h2 Q' fun σ2 ρ2 l2 s2 R2 q2 => k σ2 ρ2 (l2.trans l1) (fun i hi => ⟨(s2 i hi).1.trans (s1 i hi).1, (s2 i hi).2.trans (s1 i hi).2⟩) R2 q2⟩
theorem gv_tup {n : Nat} {gs : TGs} {vs : List Nat} {ds : List D} {Q : Env → Prop} (hn : ds.length = n) (h : GVs K gs vs ds ρ Q) : GV K (gTup K n gs) vs (.tup ds) ρ Q := fun F G H σ v R hv Q' k => by
  obtain ⟨a, us, rfl, h1, h2⟩ := rep_tup hv
  exact ⟨a, us, rfl, R.wd.g.sqT h1, by rw [h2.length]; exact hn, h F G H σ us R h2 Q' k⟩
/-- [te for g in wi if tt], the names vs within; what is own stays as it is -/
theorem en_lc {wi : TI} {g : TG} {vs : List Nat} (h : EvI K wi ρ fun ds ρ1 => ownFree ρ1 vs = true ∧ ds.length ≤ 90000 ∧ ∃ P : Nat → List D → Prop, P 0 [] ∧
      (∀ i d acc, ds[i]? = some d → P i acc → GV K g vs d (wipeE ρ1 vs) fun ρ2 => EvT K tt ρ2 fun b ρ3 => ρ3 = ρ2 ∧ if b = true then EvW K te ρ2 fun y ρ4 => ρ4 = ρ2 ∧ P (i + 1) (acc ++ [y]) else P (i + 1) acc) ∧
      ∀ acc, P ds.length acc → Q (.lst acc) ρ1) : EvN K (tLc wi g tt te vs) ρ Q := fun F G H σ R Q' k =>
  h F G H σ R _ fun J ds ρ1 G1 H1 e1 R1 Y q => fun Dd hD => by
    obtain ⟨hv0, hlen, P, p0, turn, fin⟩ := q
    have hv := ownFree_at hv0
    have hF0 : F Dd = none := R1.wd.f.none hD
    have hO : Dd ∉ ownA ρ1 := ownA_fresh R1 hD
    refine ⟨fun i m H' => m + i = ds.length ∧ ∃ acc accV G', Ex G1 G' ∧ RE K F G' H' σ ρ1 ∧ G' Dd = none ∧ H' Dd = some (.lst accV) ∧ Reps K G' accV acc ∧ acc.length ≤ i ∧ P i acc,
      ⟨ds.length, rfl, [], [], G1, Ex.refl _, R1.alone hD, R1.wd.g.none hD, upd_same, .nil, Nat.le_refl _, p0⟩, ?_⟩
    rintro i m H' ⟨hm, acc, accV, G', e', R', hG, hH, ra, hl, p⟩
    have Rf := R'.frm hH hG hO
    by_cases hi : i < ds.length
    · refine .inr ⟨Y.go _ G' H' σ ρ1 i e' Rf hi, fun H2 => ∃ acc accV G2, Ex G1 G2 ∧ RE K F G2 H2 σ ρ1 ∧ G2 Dd = none ∧ H2 Dd = some (.lst accV) ∧ Reps K G2 accV acc ∧ acc.length ≤ i + 1 ∧ P (i + 1) acc, fun H2 z => ⟨m - 1, by omega, by omega, z⟩, fun x H2 y => ?_⟩
      obtain ⟨G2, d, e2, R2, hd, hx⟩ := Y.yld _ G' H' σ ρ1 i x H2 e' Rf hi y
      refine turn i d acc hd p _ G2 H2 _ x (R2.wipe vs) hx _ fun σ2 ρ2 l2 s2 R3 w3 => ?_
      refine ⟨?_, w3 _ G2 H2 σ2 R3 _ fun b ρ3 G4 H4 e4 R4 w4 => ?_⟩
      · have e0 : L2.wipe (L2.wipe σ vs) vs = L2.wipe σ vs := wipe_eq (L2.wipe_length σ vs) fun i hi => wipe_at hi
        rw [wipe_eq l2 fun i hi => (s2 i hi).1, e0]
      obtain ⟨rfl, w4⟩ := w4
      have back : ∀ {G5 H5 : Hp}, Ex G2 G5 → RE K (upd F Dd (.lst accV)) G5 H5 σ2 ρ3 → RE K F G5 H5 σ ρ1 ∧ H5 Dd = some (.lst accV) ∧ G5 Dd = none := fun {G5 H5} e5 R5 => by
        obtain ⟨R6, h6, g6⟩ := R5.unfrm hF0
        refine ⟨⟨R6.wd, Slots.join (e2.trans e5) R'.sl R6.sl (fun j r hr ho => ?_), R'.nd⟩, h6, g6⟩
        have hj := hv j r hr ho
        rw [(s2 j hj).1, (s2 j hj).2, wipe_at hj, wipeE_at hj]
        exact ⟨hr, rfl⟩
      cases b with
      | true =>
        refine w4 _ G4 H4 σ2 R4 _ fun v yv ρ5 G5 H5 e5 R5 hvy w5 => ?_
        obtain ⟨rfl, w5⟩ := w5
        obtain ⟨R6, h6, g6⟩ := back (e4.trans e5) R5
        refine ⟨accV, h6, by rw [ra.length]; exact bigl (by omega), acc ++ [yv], accV ++ [v], G5, ((e'.trans e2).trans e4).trans e5, R6.aloneU g6 hF0 hO, g6, upd_same, (ra.mono ((e2.trans e4).trans e5)).append (.cons hvy .nil), by simp; omega, w5⟩
      | false =>
        obtain ⟨R6, h6, g6⟩ := back e4 R4
        exact ⟨acc, accV, G4, (e'.trans e2).trans e4, R6, g6, h6, ra.mono (e2.trans e4), by omega, w4⟩
    · have ei : i = ds.length := by omega
      subst ei
      exact .inl ⟨Y.stop _ G' H' σ ρ1 e' R', k Dd (.lst acc) ρ1 G' H' (e1.trans e') R' hG hF0 hO ⟨accV, hH, ra⟩ (fin acc p)⟩
end
end DL

set_option Elab.async false
set_option linter.all false
set_option maxRecDepth 100000
namespace DL
open PySem PySem.Spec PyProof.Rows L2
/-! ### a def that keeps its promise, by name -/
structure FnB (P : Program) (w : World) (K : PySem.W.Frag) (mg : Str → Option Value) (base : Heap) (k : Nat) (x : Str) (ps : List Str) (sp : Sp) : Prop where
  ex : ∃ fd, FnOk P w K mg base CX0 k (He.ga K x) fd ps sp ∧ Binds K fd ps []
  kp : PySem.W.keepIn K (.ref (He.ga K x)) = true
  at_ : mg x = some (.ref (He.ga K x))
theorem FnB.mono {P : Program} {w : World} {K : PySem.W.Frag} {mg : Str → Option Value} {base : Heap} {j k : Nat} {x : Str} {ps : List Str} {sp : Sp} (F : FnB P w K mg base j x ps sp) (h : j ≤ k) : FnB P w K mg base k x ps sp := by
  obtain ⟨fd, h1, h2⟩ := F.ex
  exact ⟨⟨fd, h1.mono h, h2⟩, F.kp, F.at_⟩
theorem pe_callF {X : Cx} {k : Nat} {x : Str} {ps : List Str} {sp : Sp} {e : Expr} {es : List Expr} {t : TA} {p pos : Pos} (F : FnB X.prog X.w X.K X.mg X.base k x ps sp) (hr : Room k X.A) (ha : PA X (e :: es) t) (hg : Gl X x := by rfl)
    (he : starEach (e :: es) X.env = (false, eval e X.env) :: starEach es X.env := by rfl) (hpl : (backTo pos (starEach es X.env)).any (·.1) = false := by rfl) (hd : (x == ("__debug__" : Str)) = false := by decide) : PE X (.Call (.Name x p) (e :: es) [] pos) (tCall sp [] E0 t) := by
  obtain ⟨fd, h1, h2⟩ := F.ex
  exact pe_call h1 hr hg F.at_ F.kp h2 .nil pass0 ha hd he hpl
theorem slots_start {K : PySem.W.Frag} {F G H : Hp} : ∀ {vs : List V} {ds : List D} (n : Nat), Reps K G vs ds → Slots K F G H (vs.map some ++ List.replicate n none) (ds.map Sl.sh ++ List.replicate n Sl.un)
  | [], [], 0, _ => trivial
  | [], [], n + 1, h => ⟨trivial, slots_start (vs := []) (ds := []) n h⟩
  | [], _ :: _, _, h => by cases h
  | _ :: _, [], _, h => by cases h
  | _ :: _, _ :: _, n, h => by
    cases h with | cons a b => exact ⟨⟨_, rfl, a⟩, slots_start n b⟩
theorem ownA_un : ∀ n : Nat, ownA (List.replicate n Sl.un) = []
  | 0 => rfl
  | n + 1 => ownA_un n
theorem own_start : ∀ (ds : List D) (n : Nat), ownA (ds.map Sl.sh ++ List.replicate n Sl.un) = []
  | [], n => ownA_un n
  | d :: ds, n => own_start ds n
abbrev envP (N : List Str) (ds : List D) : Env := ds.map Sl.sh ++ List.replicate (N.length - ds.length) Sl.un
theorem fn_P {P : Program} {w : World} {K : PySem.W.Frag} {mg : Str → Option Value} {base : Heap} {x qual : Str} {params : Arguments} {body : List Stmt} {scope : Scope} {fd : FuncData} {N ps : List Str} {k : Nat} {T : List D → (D → Prop) → Prop}
    (F : FunD K x qual params body scope [] [] (He.ga K x) fd) (at_ : mg x = some (.ref (He.ga K x)))
    (bi : ∀ (kV doc pm : Value) (an : Option Addr) (cdv ct : Value) (us : List Value), us.length = ps.length → bindArgs (PySem.W.fnOf x qual params body scope .none kV doc pm an cdv ct) ⟨us, []⟩ = pure (ps.zip us))
    (S : FnScope N ps scope) (hl : ∀ ds Qd, T ds Qd → ds.length = ps.length)
    (hb : ∀ (cdv : Value) (A : Around) (outer : List PySem.Env) (s : Shared) (H : Hp) (E : XK), Room k (A.deeper (envOfC qual scope s.heap.objs.size (He.ga K x) cdv)) →
      ∃ t, PSs (cxOf CX0 P w K mg base N qual scope (He.ga K x) cdv A outer s H E).nox body t ∧ ∀ ds Qd, T ds Qd → WS K t (envP N ds) { nx := fun _ => Qd .non, rt := fun d _ => Qd d }) :
    FnB P w K mg base (k + 1) x ps (spP K T) := by
  refine ⟨⟨fd, F.ok S (fun vs H Q E h => ?_) (fun cdv A outer s H vs Q E hr h => ?_), F.bindsN bi⟩, F.kp, at_⟩
  · obtain ⟨_, _, ds, Qd, _, r, t, _⟩ := h
    rw [r.length]; exact hl ds Qd t
  · obtain ⟨F', G, ds, Qd, W, r, tt, post⟩ := h
    obtain ⟨t, hd, hw⟩ := hb cdv A outer s H E hr
    refine ⟨t, PSs.nox hd, ?_⟩
    have R : RE K F' G H (L2.start N vs) (envP N ds) := by
      unfold L2.start
      refine ⟨W, by rw [r.length]; exact slots_start _ r, by rw [own_start]; exact List.nodup_nil⟩
    refine hw ds Qd tt F' G H (L2.start N vs) _ R ⟨fun σ' ρ' G' H' e R' q => ?_, fun v d σ' ρ' G' H' e R' hv q => ?_, fun σ' ρ' G' H' e R' q => q.elim, fun σ' ρ' G' H' e R' q => q.elim, fun p d σ' ρ' G' H' e R' _ _ _ _ q => q.elim⟩
    · exact post .non .non G' H' e R'.wd .non q
    · exact post v d G' H' e R'.wd hv q
/-- .. that hands back a new object -/
theorem fn_N {P : Program} {w : World} {K : PySem.W.Frag} {mg : Str → Option Value} {base : Heap} {x qual : Str} {params : Arguments} {body : List Stmt} {scope : Scope} {fd : FuncData} {N ps : List Str} {k : Nat} {T : List D → (D → Prop) → Prop}
    (F : FunD K x qual params body scope [] [] (He.ga K x) fd) (at_ : mg x = some (.ref (He.ga K x)))
    (bi : ∀ (kV doc pm : Value) (an : Option Addr) (cdv ct : Value) (us : List Value), us.length = ps.length → bindArgs (PySem.W.fnOf x qual params body scope .none kV doc pm an cdv ct) ⟨us, []⟩ = pure (ps.zip us))
    (S : FnScope N ps scope) (hl : ∀ ds Qd, T ds Qd → ds.length = ps.length)
    (hb : ∀ (cdv : Value) (A : Around) (outer : List PySem.Env) (s : Shared) (H : Hp) (E : XK), Room k (A.deeper (envOfC qual scope s.heap.objs.size (He.ga K x) cdv)) →
      ∃ t, PSs (cxOf CX0 P w K mg base N qual scope (He.ga K x) cdv A outer s H E).nox body t ∧ ∀ ds Qd, T ds Qd → WS K t (envP N ds) { nx := fun _ => False, rt := fun _ _ => False, ro := fun d _ => Qd d }) :
    FnB P w K mg base (k + 1) x ps (spN K T) := by
  refine ⟨⟨fd, F.ok S (fun vs H Q E h => ?_) (fun cdv A outer s H vs Q E hr h => ?_), F.bindsN bi⟩, F.kp, at_⟩
  · obtain ⟨_, _, ds, Qd, _, r, t, _⟩ := h
    rw [r.length]; exact hl ds Qd t
  · obtain ⟨F', G, ds, Qd, W, r, tt, post⟩ := h
    obtain ⟨t, hd, hw⟩ := hb cdv A outer s H E hr
    refine ⟨t, PSs.nox hd, ?_⟩
    have R : RE K F' G H (L2.start N vs) (envP N ds) := by
      unfold L2.start
      refine ⟨W, by rw [r.length]; exact slots_start _ r, by rw [own_start]; exact List.nodup_nil⟩
    refine hw ds Qd tt F' G H (L2.start N vs) _ R ⟨fun σ' ρ' G' H' e R' q => q.elim, fun v d σ' ρ' G' H' e R' hv q => q.elim, fun σ' ρ' G' H' e R' q => q.elim, fun σ' ρ' G' H' e R' q => q.elim, fun p d σ' ρ' G' H' e R' hG hF hO o q => ?_⟩
    exact post p d G' H' e R'.wd hG hF o q
/-- .. whose first argument is the state of draws -/
abbrev envW (a : Addr) (N : List Str) (ds : List D) : Env := Sl.drw a :: (ds.map Sl.sh ++ List.replicate (N.length - 1 - ds.length) Sl.un)
theorem fn_W {P : Program} {w : World} {K : PySem.W.Frag} {mg : Str → Option Value} {base : Heap} {x qual : Str} {params : Arguments} {body : List Stmt} {scope : Scope} {fd : FuncData} {N ps : List Str} {k : Nat} {T : List D → (D → Prop) → Prop}
    (F : FunD K x qual params body scope [] [] (He.ga K x) fd) (at_ : mg x = some (.ref (He.ga K x)))
    (bi : ∀ (kV doc pm : Value) (an : Option Addr) (cdv ct : Value) (us : List Value), us.length = ps.length → bindArgs (PySem.W.fnOf x qual params body scope .none kV doc pm an cdv ct) ⟨us, []⟩ = pure (ps.zip us))
    (S : FnScope N ps scope) (hN : N ≠ []) (hl : ∀ ds Qd, T ds Qd → ds.length + 1 = ps.length)
    (hb : ∀ (cdv : Value) (A : Around) (outer : List PySem.Env) (s : Shared) (H : Hp) (E : XK), Room k (A.deeper (envOfC qual scope s.heap.objs.size (He.ga K x) cdv)) →
      ∃ t, PSs (cxOf CX0 P w K mg base N qual scope (He.ga K x) cdv A outer s H E).nox body t ∧ ∀ a ds Qd, T ds Qd → WS K t (envW a N ds) { nx := fun ρ => ρ[0]? = some (.drw a) ∧ Qd .non, rt := fun d ρ => ρ[0]? = some (.drw a) ∧ Qd d }) :
    FnB P w K mg base (k + 1) x ps (spW K T) := by
  refine ⟨⟨fd, F.ok S (fun vs H Q E h => ?_) (fun cdv A outer s H vs Q E hr h => ?_), F.bindsN bi⟩, F.kp, at_⟩
  · obtain ⟨a, ws, _, _, ds, Qd, rfl, _, _, _, _, r, t, _⟩ := h
    rw [List.length_cons, r.length]; exact hl ds Qd t
  · obtain ⟨a, ws, F', G, ds, Qd, rfl, W, hG, hF, hD, r, tt, post⟩ := h
    obtain ⟨t, hd, hw⟩ := hb cdv A outer s H E hr
    refine ⟨t, PSs.nox hd, ?_⟩
    have es : L2.start N (.ref a :: ws) = some (.ref a) :: (ws.map some ++ List.replicate (N.length - 1 - ws.length) none) := by
      unfold L2.start
      simp only [List.map_cons, List.cons_append, List.length_cons]
      rw [show N.length - (ws.length + 1) = N.length - 1 - ws.length by omega]
    have R : RE K F' G H (L2.start N (.ref a :: ws)) (envW a N ds) := by
      rw [es]
      refine ⟨W, ⟨⟨rfl, hG, hF, hD⟩, by rw [r.length]; exact slots_start _ r⟩, ?_⟩
      show (a :: ownA (ds.map Sl.sh ++ List.replicate (N.length - 1 - ds.length) Sl.un)).Nodup
      rw [own_start]
      simp
    have dr : ∀ {σ' : L2.St} {ρ' : Env} {G' H' : Hp}, RE K F' G' H' σ' ρ' → ρ'[0]? = some (.drw a) → G' a = none ∧ DrwR (H' a) := fun R' h0 => by
      obtain ⟨_, _, _, h1, _, h2⟩ := R'.sl.get h0
      exact ⟨h1, h2⟩
    refine hw a ds Qd tt F' G H _ _ R ⟨fun σ' ρ' G' H' e R' q => ?_, fun v d σ' ρ' G' H' e R' hv q => ?_, fun σ' ρ' G' H' e R' q => q.elim, fun σ' ρ' G' H' e R' q => q.elim, fun p d σ' ρ' G' H' e R' _ _ _ _ q => q.elim⟩
    · exact post .non .non G' H' e R'.wd (dr R' q.1).1 (dr R' q.1).2 .non q.2
    · exact post v d G' H' e R'.wd (dr R' q.1).1 (dr R' q.1).2 hv q.2
end DL

set_option Elab.async false
set_option linter.all false
set_option maxRecDepth 100000
namespace DL
open PySem PySem.Spec PyProof.Rows L2
/-! ### enumerate over a tuple -/
set_option maxHeartbeats 1000000 in
theorem meets_enum1 {v : Value} {ob : Obj} {HB : Heap → Prop} (B : Begins v ob HB) :
    Meets (Builtin.«enumerate.__new__» ⟨[.type "enumerate", v], []⟩)
      (fun _ R s => HB s.heap ∧ R (.ok (.ret (.ref (s.heap.push ob).objs.size)))
        { s with heap := (s.heap.push ob).push { cls := .type "enumerate", data := .fields #[.none, .bool false, .ref s.heap.objs.size, rawInt 0, .none, .none] } }) := by
  refine .of_wp fun prog w A R s h => ?_
  obtain ⟨hp, gs, dr, tk, os⟩ := s
  obtain ⟨hb, hR⟩ := h
  have sube := sub_enumerate
  have begin1 : ∀ {A' : Around} {E' : Value → Shared → Prop} {Q' : Value → Shared → Prop}, Q' (.ref hp.objs.size) ⟨hp.push ob, gs, dr, tk, os⟩ → wpAny (model prog w) A' (pyIter v) Q' E' ⟨hp, gs, dr, tk, os⟩ := fun z => B.iter prog w _ _ ⟨hp, gs, dr, tk, os⟩ _ hb z
  wp_walk using begin1
  refine wpAny_stack_any fun stk => wpAny_pure ?_
  split
  · rename_i cc _ _ _ _ _
    cases (cc == Value.type "enumerate") <;> (wp_walk using begin1; exact ⟨_, rfl, hR⟩)
  · wp_walk using begin1
    exact ⟨_, rfl, hR⟩
theorem call_enum1 {prog : Program} {w : World} {A : Around} {E : Value → Shared → Prop} {s : Shared} {v : Value} {ob : Obj} {HB : Heap → Prop} {Q : Value → Shared → Prop} (B : Begins v ob HB) (hb : HB s.heap)
    (h : ∀ h', IsEnum h' (s.heap.objs.size + 1) s.heap.objs.size 0 .none → h'.get? s.heap.objs.size = some ob → (∀ b o, s.heap.get? b = some o → h'.get? b = some o) → Q (.ref (s.heap.objs.size + 1)) { s with heap := h' }) :
    wpAny (model prog w) A (call (.type "enumerate") [v]) Q E s := by
  refine callType_new F.called_enumerate (by decide) (F.typeCall_enumerate_1 _) (F.newCall_enumerate_1 _) (fun obj => F.args_object_init_2 obj _) F.entry_enumerate_new (meets_enum1 B) ⟨hb, ?_⟩
  have sz : (s.heap.push ob).objs.size = s.heap.objs.size + 1 := Heap.size_push ..
  have at0 := Heap.get?_push_size (s.heap.push ob) (o := { cls := .type "enumerate", data := .fields #[.none, .bool false, .ref s.heap.objs.size, rawInt 0, .none, .none] }) rfl
  rw [sz] at at0
  show _ ∧ _
  rw [sz]
  exact ⟨⟨_, at0, rfl⟩, h _ at0 (Heap.get?_push_of_some _ (Heap.get?_push_size _ B.free)) fun b o x => Heap.get?_push_of_some _ (Heap.get?_push_of_some _ x)⟩
/-- the tuple at a, each item in a new pair -/
def IteT (K : PySem.W.Frag) (a : Addr) : It where
  go := fun i H => ∃ (xs : List V) (x : V), SqT K H a xs ∧ xs[i]? = some x
  yld := fun i H v H' => ∃ T x, v = .ref T ∧ H T = none ∧ H' = upd H T (.tup [.int (i : Nat), x]) ∧ ∀ xs, SqT K H a xs → xs[i]? = some x
  stop := fun i H => ∃ xs : List V, SqT K H a xs ∧ xs.length = i
theorem turn_enumT {P : Program} {w : World} {K : PySem.W.Frag} {elts : List Expr} {kk : Nat} {tpos : Pos} (a e it : Addr) (hai : a ≠ it) (hae : e ≠ a) :
    Turn P w K (.Tuple elts kk tpos) (IteT K a) [e, it] e (fun i h => (∃ old, IsEnum h e it ((i : Nat) : Int) old) ∧ h.IsTupleIter it a i ∧ e ≠ it) where
  mem := by simp
  obj := fun i h st b hb => by
    obtain ⟨⟨old, he⟩, ⟨o, ho, hc, hd⟩, _⟩ := st
    rcases (show b = e ∨ b = it by simpa using hb) with rfl | rfl
    · exact ⟨_, he, fun v q => nomatch q⟩
    · exact ⟨o, ho, fun v q => by rw [hd] at q; cases q⟩
  keep := fun i h h' st k => by
    obtain ⟨⟨old, he⟩, hi, hne⟩ := st
    exact ⟨⟨old, k e (by simp) _ he⟩, hi.at fun o q => k it (by simp) o q, hne⟩
  item := by
    intro X hP hw hK hc i pins s σ H E I hf st hg
    subst hP hw hK
    obtain ⟨⟨old, he⟩, hit, hne⟩ := st
    obtain ⟨xs, x, hq, hx⟩ := hg
    obtain ⟨its, rv, tp, hz⟩ := I.tuple hq
    obtain ⟨u, hu, ru⟩ := rv.get hx
    have hel : e < s.heap.objs.size := Heap.lt_size he
    have hil : it < s.heap.objs.size := by obtain ⟨_, q, _⟩ := hit; exact Heap.lt_size q
    have hh : X.A.in1.handled = none := by simpa using I.ok.hd hc
    have hlt : i < its.toArray.size := by
      have := (List.getElem?_eq_some_iff.mp hu).1
      simpa using this
    have hef : e ∉ [it, a] := fun m => by
      rcases (show e = it ∨ e = a by simpa using m) with z | z
      · exact hne z
      · exact hae z
    refine wpAny_pyNext_enum_itemD (Draws.tuple (prog := X.prog) (w := X.w) hh it a hai its.toArray) he ⟨hit, tp⟩ hlt hne hef fun y h' tk hy ho hst hT hsz hk => ?_
    have ey : y = u := by
      have h1 : its.toArray[i]? = some u := by simpa using hu
      exact Option.some.inj (hy.symm.trans h1)
    subst ey
    refine ⟨_, rfl, wpAny_letOwnedTupleGo_enum (s := { s with heap := h', toks := tk + 1 }) ho fun h'' he' sb => ?_⟩
    have hT2 : h''.get? s.heap.objs.size = some { cls := .type "tuple", data := .seq #[.int i tk, y] } := (sb.2 _ (Nat.ne_of_gt hel)).trans hT
    have new : ObjOk X.prog X.w (upd H s.heap.objs.size (.tup [.int (i : Nat), x])) h'' s.heap.objs.size (.tup [.int (i : Nat), x]) := by
      refine ⟨by show 2 ≤ sizeLine; decide, [.int i tk, y], .cons ⟨_, rfl⟩ (.cons ru .nil), ⟨_, hT2, rfl, _, rfl⟩⟩
    have I1 : Inv X pins σ (upd H s.heap.objs.size (.tup [.int (i : Nat), x])) { s with heap := h'', toks := tk + 1 } := by
      refine I.turnedNew (ch := [e, it]) (fun b ob hb q => ?_) hf (Nat.le_refl _) new
      exact (sb.2 b fun z => hb (by simp [z])).trans (hk b ob (fun z => hb (by simp [z])) (fun z => hb (by simp [z])) q)
    refine ⟨.ref s.heap.objs.size, _, I1, rfl, ⟨_, x, rfl, I.hok.fresh (Nat.le_refl _), rfl, fun ys hy => by rw [I.tuple_inj hy hq]; exact hx⟩, ⟨⟨y, ?_⟩, hst.1.at fun o q => (sb.2 it (Ne.symm hne)).trans q, hne⟩, fun b hb => ?_⟩
    · rw [show ((i + 1 : Nat) : Int) = (i : Int) + 1 by omega]
      exact he'
    · have hb' : b < s.heap.objs.size := by
        rcases (show b = e ∨ b = it by simpa using hb) with z | z
        · rw [z]; exact hel
        · rw [z]; exact hil
      rw [upd_ne (Nat.ne_of_lt hb')]
      exact (hf b hb).1
  done := by
    intro X hP hw hK hc i pins s σ H E I hf st hg
    subst hP hw hK
    obtain ⟨⟨old, he⟩, hit, hne⟩ := st
    obtain ⟨xs, hq, hx⟩ := hg
    obtain ⟨its, rv, tp, hz⟩ := I.tuple hq
    obtain ⟨f0, f1, f2, f3, f4, f5⟩ := hf it (by simp)
    have hh : X.A.in1.handled = none := by simpa using I.ok.hd hc
    have hl := rv.length
    have ei : i = its.toArray.size := by simp; omega
    subst ei
    refine wpAny_pyNext_enum_endD (Draws.tuple (prog := X.prog) (w := X.w) hh it a hai its.toArray) he ⟨hit, tp⟩ fun h' eb => ?_
    exact ⟨rfl, I.turned (t' := s.toks) (fun b o hb q => eb b o hb q) f0 f1 f3 f4 f5⟩
  self := fun A i s Q E st h => by
    obtain ⟨⟨_, he⟩, _⟩ := st
    exact wpAny_pyIter_enum he h
def iEnumT (K : PySem.W.Frag) (ta : TA) : TI := fun σ H R => ta σ H fun vs H1 => ∃ a xs, vs = [.ref a] ∧ SqT K H1 a xs ∧ R (IteT K a) H1
theorem pi_enumT {X : Cx} {e : Expr} {ta : TA} {p pos tpos : Pos} {elts : List Expr} {kk : Nat} (hg : Gl X "enumerate") (hm : X.mg "enumerate" = none) (ha : PA X [e] ta) (hs : starEach [e] X.env = [(false, eval e X.env)] := by rfl) :
    PI X (.Tuple elts kk tpos) (.Call (.Name "enumerate" p) [e] [] pos) (iEnumT X.K ta) := by
  refine ⟨fun pins s σ H R I h => ?_⟩
  refine Call_ (ld_blt I hg hm boot_enumerate (PyProof.Rows.callWith_type1 (thn (ha.run pos pins s σ H _ I h) fun us s1 z => ?_) hs rfl))
  obtain ⟨vs, H1, I1, r1, a, xs, rfl, hq, q⟩ := z
  obtain ⟨u, rfl, ru⟩ := vals1 r1
  cases ru
  obtain ⟨its, rv, tp, hz⟩ := I1.tuple hq
  have ha1 : a < s1.heap.objs.size := by obtain ⟨o, h1, _⟩ := tp; exact Heap.lt_size h1
  refine call_enum1 (begins_tuple a its.toArray) tp fun h' he hit hk => wpAny_pyIter_enum he ?_
  have I2 : Inv X pins σ H1 { s1 with heap := h' } := I1.kept (t' := s1.toks) hk
  refine ⟨s1.heap.objs.size + 1, [s1.heap.objs.size + 1, s1.heap.objs.size], _, _, H1, rfl, I2, turn_enumT a (s1.heap.objs.size + 1) s1.heap.objs.size (Nat.ne_of_lt ha1) (Nat.ne_of_gt (Nat.lt_succ_of_lt ha1)), ⟨⟨.none, he⟩, ⟨_, hit, rfl, rfl⟩, Nat.succ_ne_self _⟩, fun b hb => ?_, q⟩
  have hle : s1.heap.objs.size ≤ b := by
    rcases (show b = s1.heap.objs.size + 1 ∨ b = s1.heap.objs.size by simpa using hb) with z | z
    · rw [z]; exact Nat.le_add_right _ _
    · rw [z]; exact Nat.le_refl _
  exact I1.fpOk hle (I1.hok.fresh hle)
/-- enumerate of a list or of a tuple -/
theorem pi_enumU {X : Cx} {e : Expr} {ta : TA} {p pos tpos : Pos} {elts : List Expr} {kk : Nat} (hg : Gl X "enumerate") (hm : X.mg "enumerate" = none) (ha : PA X [e] ta) (hs : starEach [e] X.env = [(false, eval e X.env)] := by rfl) :
    PI X (.Tuple elts kk tpos) (.Call (.Name "enumerate" p) [e] [] pos) (fun σ H R => iEnum X.K ta σ H R ∨ iEnumT X.K ta σ H R) := pi_or (pi_enum hg hm ha hs) (pi_enumT hg hm ha hs)
section
variable {K : PySem.W.Frag} {ts : TA} {ρ : Env} {Q : List D → Env → Prop}
def enumD (ds : List D) : List D := (List.range ds.length).zipWith (fun i d => D.tup [.int (i : Nat), d]) ds
theorem enumD_len (ds : List D) : (enumD ds).length = ds.length := by simp [enumD]
theorem enumD_at {ds : List D} {i : Nat} {d : D} (h : ds[i]? = some d) : (enumD ds)[i]? = some (.tup [.int (i : Nat), d]) := by
  have hl := (List.getElem?_eq_some_iff.mp h).1
  unfold enumD
  rw [List.getElem?_zipWith, h]
  simp [List.getElem?_range hl]
theorem pair_new {F G H : Hp} {σ : L2.St} {ρ : Env} (R : RE K F G H σ ρ) {T : Addr} (hT : H T = none) {x y : V} {d e : D} (hx : Rep K G x d) (hy : Rep K G y e) :
    ∃ G3, Ex G G3 ∧ RE K F G3 (upd H T (.tup [x, y])) σ ρ ∧ Rep K G3 (.ref T) (.tup [d, e]) := by
  have e3 : Ex G (upd G T (.tup [x, y])) := Ex.new (R.wd.g.none hT)
  exact ⟨_, e3, R.new hT, .tup (.inl (.inl upd_same)) (.cons (hx.mono e3) (.cons (hy.mono e3) .nil))⟩
theorem yl_enumL {G : Hp} {a : Addr} {vs : List V} {ds : List D} (h1 : G a = some (.lst vs)) (h2 : Reps K G vs ds) : Yields K G (Ite K a) (enumD ds) where
  go := fun F G2 H2 σ ρ i e R hi => ⟨vs, vs[i]'(by rw [h2.length]; simpa [enumD_len] using hi), .inl (.inl (R.wd.g _ _ (e _ _ h1))), by rw [List.getElem?_eq_getElem]⟩
  stop := fun F G2 H2 σ ρ e R => ⟨vs, .inl (.inl (R.wd.g _ _ (e _ _ h1))), by rw [h2.length, enumD_len]; exact Nat.le_refl _⟩
  yld := fun F G2 H2 σ ρ i x H3 e R hi y => by
    obtain ⟨T, z, rfl, hT, rfl, y⟩ := y
    obtain ⟨d, hd, hx⟩ := h2.getV (y vs (.inl (.inl (R.wd.g _ _ (e _ _ h1)))))
    obtain ⟨G3, e3, R3, h3⟩ := pair_new R hT (.int ((i : Nat) : Int)) (hx.mono e)
    exact ⟨G3, _, e3, R3, enumD_at hd, h3⟩
theorem yl_enumT {G : Hp} {a : Addr} {vs : List V} {ds : List D} (h1 : SqT K G a vs) (h2 : Reps K G vs ds) : Yields K G (IteT K a) (enumD ds) where
  go := fun F G2 H2 σ ρ i e R hi => ⟨vs, vs[i]'(by rw [h2.length]; simpa [enumD_len] using hi), R.wd.g.sqT (e.sqT h1), by rw [List.getElem?_eq_getElem]⟩
  stop := fun F G2 H2 σ ρ e R => ⟨vs, R.wd.g.sqT (e.sqT h1), by rw [h2.length, enumD_len]⟩
  yld := fun F G2 H2 σ ρ i x H3 e R hi y => by
    obtain ⟨T, z, rfl, hT, rfl, y⟩ := y
    obtain ⟨d, hd, hx⟩ := h2.getV (y vs (R.wd.g.sqT (e.sqT h1)))
    obtain ⟨G3, e3, R3, h3⟩ := pair_new R hT (.int ((i : Nat) : Int)) (hx.mono e)
    exact ⟨G3, _, e3, R3, enumD_at hd, h3⟩
theorem ei_enumL (h : EvA K ts ρ fun xs ρ1 => ∃ ds, xs = [.lst ds] ∧ Q (enumD ds) ρ1) : EvI K (fun σ H R => iEnum K ts σ H R ∨ iEnumT K ts σ H R) ρ Q := fun F G H σ R R' k =>
  .inl (h F G H σ R _ fun vs xs ρ1 G1 H1 e1 R1 hv q => by
    obtain ⟨ds, rfl, q⟩ := q
    obtain ⟨v, rfl, hv1⟩ := hv.one
    obtain ⟨a, ws, rfl, h1, h2⟩ := rep_lst hv1
    exact ⟨a, ws, rfl, .inl (.inl (R1.wd.g _ _ h1)), k _ _ ρ1 G1 H1 e1 R1 (yl_enumL h1 h2) q⟩)
theorem ei_enumT (h : EvA K ts ρ fun xs ρ1 => ∃ ds, xs = [.tup ds] ∧ Q (enumD ds) ρ1) : EvI K (fun σ H R => iEnum K ts σ H R ∨ iEnumT K ts σ H R) ρ Q := fun F G H σ R R' k =>
  .inr (h F G H σ R _ fun vs xs ρ1 G1 H1 e1 R1 hv q => by
    obtain ⟨ds, rfl, q⟩ := q
    obtain ⟨v, rfl, hv1⟩ := hv.one
    obtain ⟨a, ws, rfl, h1, h2⟩ := rep_tup hv1
    exact ⟨a, ws, rfl, R1.wd.g.sqT h1, k _ _ ρ1 G1 H1 e1 R1 (yl_enumT h1 h2) q⟩)
end
end DL

set_option Elab.async false
set_option linter.all false
set_option maxRecDepth 100000
namespace DL
open PySem PySem.Spec PyProof.Rows L2
section
variable {K : PySem.W.Frag} {te ta tb tc td ty : TE} {tt tu : TT} {ts : TA} {ρ : Env} {Q : D → Env → Prop}
/-! ### dicts: what is there -/
def kD : Key → D
  | .inl i => .int i
  | .inr x => .str x
theorem rep_kD {H : Hp} {v : V} {k : Key} (h : Rep K H v (kD k)) : v = kV k := by
  cases k with
  | inl i => exact rep_int h
  | inr x => exact rep_str h
def dget {κ : Type} [DecidableEq κ] (ps : List (κ × D)) (k : κ) : Option D := (ps.find? fun kv => decide (kv.1 = k)).map (·.2)
theorem dk_look {κ : Type} [DecidableEq κ] {H : Hp} (k : κ) : ∀ {kvs : List (κ × V)} {ps : List (κ × D)}, kvs.map (·.1) = ps.map (·.1) → Reps K H (kvs.map (·.2)) (ps.map (·.2)) →
    (valV kvs k = none ∧ dget ps k = none) ∨ ∃ v d, valV kvs k = some v ∧ dget ps k = some d ∧ Rep K H v d
  | [], [], _, _ => .inl ⟨rfl, rfl⟩
  | [], _ :: _, e, _ => by simp at e
  | _ :: _, [], e, _ => by simp at e
  | kv :: kvs, p :: ps, e, r => by
    simp only [List.map_cons, List.cons.injEq] at e
    cases r with
    | cons r1 r2 =>
      by_cases hk : kv.1 = k
      · refine .inr ⟨kv.2, p.2, valV_pos hk, ?_, r1⟩
        have hp : p.1 = k := e.1 ▸ hk
        simp [dget, List.find?_cons, hp]
      · have hp : ¬ p.1 = k := fun z => hk (e.1.trans z)
        have e1 : valV (kv :: kvs) k = valV kvs k := by simp [valV, List.find?_cons, hk]
        have e2 : dget (p :: ps) k = dget ps k := by simp [dget, List.find?_cons, hp]
        rw [e1, e2]
        exact dk_look k e.2 r2
/-- k in d -/
theorem ew_din (h : EvW K ty ρ fun y ρ1 => EvW K td ρ1 fun x ρ2 => ∃ k ps, y = kD k ∧ x = .dk ps ∧ Q (.bl (dget ps k).isSome) ρ2) : EvW K (tDIn ty td) ρ Q := fun F G H σ R Q' k =>
  h F G H σ R _ fun v y ρ1 G1 H1 e1 R1 hv q1 => q1 F G1 H1 σ R1 _ fun w x ρ2 G2 H2 e2 R2 hw q2 => by
    obtain ⟨kk, ps, rfl, rfl, q⟩ := q2
    obtain ⟨a, kvs, rfl, h1, h2, h3⟩ := rep_dk hw
    have hr : Rd H2 a (.dK kvs) := R2.wd.g.rdx.1 _ _ trivial h1
    refine ⟨a, valV kvs kk, rfl, .inl ⟨kvs, kk, hr, rep_kD hv, rfl⟩, ?_⟩
    have e : (valV kvs kk).isSome = (dget ps kk).isSome := by
      rcases dk_look kk h2 h3 with ⟨z1, z2⟩ | ⟨_, _, z1, z2, _⟩ <;> rw [z1, z2] <;> rfl
    rw [e]
    exact k _ _ ρ2 G2 H2 (e1.trans e2) R2 (.bl _) q
theorem ew_dnotin (h : EvW K ty ρ fun y ρ1 => EvW K td ρ1 fun x ρ2 => ∃ k ps, y = kD k ∧ x = .dk ps ∧ Q (.bl (!(dget ps k).isSome)) ρ2) : EvW K (tDNotIn ty td) ρ Q := fun F G H σ R Q' k =>
  h F G H σ R _ fun v y ρ1 G1 H1 e1 R1 hv q1 => q1 F G1 H1 σ R1 _ fun w x ρ2 G2 H2 e2 R2 hw q2 => by
    obtain ⟨kk, ps, rfl, rfl, q⟩ := q2
    obtain ⟨a, kvs, rfl, h1, h2, h3⟩ := rep_dk hw
    have hr : Rd H2 a (.dK kvs) := R2.wd.g.rdx.1 _ _ trivial h1
    refine ⟨a, valV kvs kk, rfl, .inl ⟨kvs, kk, hr, rep_kD hv, rfl⟩, ?_⟩
    have e : (valV kvs kk).isSome = (dget ps kk).isSome := by
      rcases dk_look kk h2 h3 with ⟨z1, z2⟩ | ⟨_, _, z1, z2, _⟩ <;> rw [z1, z2] <;> rfl
    rw [e]
    exact k _ _ ρ2 G2 H2 (e1.trans e2) R2 (.bl _) q
/-- d[k] -/
theorem ew_dgetk (h : EvW K td ρ fun x ρ1 => EvW K ty ρ1 fun y ρ2 => ∃ k ps d, y = kD k ∧ x = .dk ps ∧ dget ps k = some d ∧ Q d ρ2) : EvW K (tDGet td ty) ρ Q := fun F G H σ R Q' k =>
  h F G H σ R _ fun v x ρ1 G1 H1 e1 R1 hv q1 => q1 F G1 H1 σ R1 _ fun w y ρ2 G2 H2 e2 R2 hw q2 => by
    obtain ⟨kk, ps, d, rfl, rfl, hd, q⟩ := q2
    obtain ⟨a, kvs, rfl, h1, h2, h3⟩ := rep_dk (hv.mono e2)
    have hr : Rd H2 a (.dK kvs) := R2.wd.g.rdx.1 _ _ trivial h1
    rcases dk_look kk h2 h3 with ⟨_, z2⟩ | ⟨v1, d1, z1, z2, z3⟩
    · rw [hd] at z2; cases z2
    · rw [hd] at z2; cases z2
      exact ⟨a, v1, rfl, .inl ⟨kvs, kk, hr, rep_kD hw, z1.symm⟩, k _ _ ρ2 G2 H2 (e1.trans e2) R2 z3 q⟩
/-! ### fields -/
theorem fs_look {H : Hp} (f : Str) : ∀ {fs : List (Str × V)} {ps : List (Str × D)}, fs.map (·.1) = ps.map (·.1) → Reps K H (fs.map (·.2)) (ps.map (·.2)) → ∀ {d : D}, ps.lookup f = some d → ∃ v, fs.lookup f = some v ∧ Rep K H v d
  | [], [], _, _, d, e => by simp at e
  | [], _ :: _, e, _, _, _ => by simp at e
  | _ :: _, [], e, _, _, _ => by simp at e
  | (g, v) :: fs, (g', x) :: ps, e, r, d, h => by
    simp only [List.map_cons, List.cons.injEq] at e
    obtain ⟨e0, e1⟩ := e
    subst e0
    cases r with
    | cons r1 r2 =>
      by_cases z : f == g
      · rw [List.lookup_cons, z] at h ⊢
        exact ⟨v, rfl, by cases h; exact r1⟩
      · have z' : (f == g) = false := by simpa using z
        rw [List.lookup_cons, z'] at h ⊢
        exact fs_look f e1 r2 h
theorem ew_fld {f : Str} (h : EvW K ta ρ fun x ρ1 => ∃ C ps d, x = .ins C ps ∧ Cls K (He.ga K C) ∧ NoAttr K (He.ga K C) f ∧ ps.lookup f = some d ∧ Q d ρ1) : EvW K (tFld K ta f) ρ Q := fun F G H σ R Q' k =>
  h F G H σ R _ fun v x ρ1 G1 H1 e1 R1 hv q => by
    obtain ⟨C, ps, d, rfl, c, n, hl, q⟩ := q
    obtain ⟨a, dx, fs, rfl, h1, h2, h3⟩ := rep_ins hv
    obtain ⟨v, hv1, hv2⟩ := fs_look f h2 h3 hl
    exact ⟨a, _, dx, fs, v, rfl, R1.wd.g _ _ h1, c, n, hv1, k _ _ ρ1 G1 H1 e1 R1 hv2 q⟩
/-! ### items -/
theorem atI_rep {H : Hp} {vs : List V} {ds : List D} {i : Int} {d : D} (r : Reps K H vs ds) (h : atI ds i = some d) : ∃ v, atI vs i = some v ∧ Rep K H v d := by
  unfold atI at h ⊢
  rw [r.length]
  cases e : ixN ds.length i with
  | none => rw [e] at h; cases h
  | some j =>
    rw [e] at h
    obtain ⟨v, h1, h2⟩ := r.get (show ds[j]? = some d from h)
    exact ⟨v, h1, h2⟩
theorem op2_ixL {ds : List D} {i : Int} {d : D} (h : atI ds i = some d) (q : Q d ρ) : Op2 K (rIx K) (.lst ds) (.int i) ρ Q := fun F G H σ R v w hv hw Q' k => by
  obtain ⟨a, vs, rfl, h1, h2⟩ := rep_lst hv
  obtain ⟨x, h3, h4⟩ := atI_rep h2 h
  exact .inl ⟨a, vs, i, x, rfl, rep_int hw, .inl (.inl (R.wd.g _ _ h1)), h3, k _ _ ρ G H (Ex.refl G) R h4 q⟩
theorem op2_ixT {ds : List D} {i : Int} {d : D} (h : atI ds i = some d) (q : Q d ρ) : Op2 K (rIx K) (.tup ds) (.int i) ρ Q := fun F G H σ R v w hv hw Q' k => by
  obtain ⟨a, vs, rfl, h1, h2⟩ := rep_tup hv
  obtain ⟨x, h3, h4⟩ := atI_rep h2 h
  exact .inr (.inl ⟨a, vs, i, x, rfl, rep_int hw, R.wd.g.sqT h1, h3, k _ _ ρ G H (Ex.refl G) R h4 q⟩)
/-- of a list or a tuple -/
def D.seq : D → Option (List D)
  | .lst xs => some xs
  | .tup xs => some xs
  | _ => none
theorem op2_ix {x : D} {ds : List D} {i : Int} {d : D} (hx : x.seq = some ds) (h : atI ds i = some d) (q : Q d ρ) : Op2 K (rIx K) x (.int i) ρ Q := by
  cases x with
  | lst xs => cases hx; exact op2_ixL h q
  | tup xs => cases hx; exact op2_ixT h q
  | _ => cases hx
theorem opa_len {x : D} {ds : List D} (hx : x.seq = some ds) (q : Q (.int ds.length) ρ) : OpA K (rLenU K) [x] ρ Q := by
  cases x with
  | lst xs => cases hx; exact opa_len_lst q
  | tup xs => cases hx; exact opa_len_tup q
  | _ => cases hx
/-! ### slices -/
def cutDD (xs : List D) (lo hi : Option Int) : List D := (xs.drop (HT.sIx xs.length 0 lo)).take (HT.sIx xs.length xs.length hi - HT.sIx xs.length 0 lo)
theorem cut_reps {H : Hp} {vs : List V} {ds : List D} (r : Reps K H vs ds) (lo hi : Option Int) : Reps K H (cutV vs lo hi) (cutDD ds lo hi) := by
  unfold cutV cutDD
  rw [r.length]
  exact (r.drop _).take _
theorem eo_none {Q : Option Int → Env → Prop} (q : Q none ρ) : EvO K tNoPart ρ Q := fun F G H σ R Q' k => k none ρ G H (Ex.refl G) R q
theorem eo_some {Q : Option Int → Env → Prop} (h : EvW K te ρ fun d ρ1 => ∃ i, d = .int i ∧ Q (some i) ρ1) : EvO K (tPart te) ρ Q := fun F G H σ R Q' k =>
  h F G H σ R _ fun v d ρ1 G1 H1 e1 R1 hv q => by
    obtain ⟨i, rfl, q⟩ := q
    exact ⟨i, rep_int hv, k _ ρ1 G1 H1 e1 R1 q⟩
def rSlU (K : PySem.W.Frag) : V → Option Int → Option Int → Hp → VK → Prop := fun x lo hi H Q => rSlL K x lo hi H Q ∨ rSlA K x lo hi H Q
theorem sl_U {X : Cx} : SlR X (rSlU X.K) := SlR.or sl_list sl_tupA
/-- a slice of a list -/
theorem en_slL {tl th : TO} (h : EvW K te ρ fun x ρ1 => EvO K tl ρ1 fun lo ρ2 => EvO K th ρ2 fun hi ρ3 => ∃ ds, x = .lst ds ∧ Q (.lst (cutDD ds lo hi)) ρ3) : EvN K (tSl (rSlU K) te tl th) ρ Q := fun F G H σ R Q' k =>
  h F G H σ R _ fun v x ρ1 G1 H1 e1 R1 hv q1 => q1 F G1 H1 σ R1 _ fun lo ρ2 G2 H2 e2 R2 q2 => q2 F G2 H2 σ R2 _ fun hi ρ3 G3 H3 e3 R3 q3 => by
    obtain ⟨ds, rfl, q⟩ := q3
    obtain ⟨a, vs, rfl, h1, h2⟩ := rep_lst (hv.mono (e2.trans e3))
    refine .inl ⟨a, vs, rfl, .inl (.inl (R3.wd.g _ _ h1)), fun p hp => ?_⟩
    exact k p (.lst (cutDD ds lo hi)) ρ3 G3 _ ((e1.trans e2).trans e3) (R3.alone hp) (R3.wd.g.none hp) (R3.wd.f.none hp) (ownA_fresh R3 hp) ⟨_, upd_same, cut_reps h2 lo hi⟩ q
/-- a slice of a tuple -/
theorem ew_slT {tl th : TO} (h : EvW K te ρ fun x ρ1 => EvO K tl ρ1 fun lo ρ2 => EvO K th ρ2 fun hi ρ3 => ∃ ds, x = .tup ds ∧ Q (.tup (cutDD ds lo hi)) ρ3) : EvW K (tSl (rSlU K) te tl th) ρ Q := fun F G H σ R Q' k =>
  h F G H σ R _ fun v x ρ1 G1 H1 e1 R1 hv q1 => q1 F G1 H1 σ R1 _ fun lo ρ2 G2 H2 e2 R2 q2 => q2 F G2 H2 σ R2 _ fun hi ρ3 G3 H3 e3 R3 q3 => by
    obtain ⟨ds, rfl, q⟩ := q3
    obtain ⟨a, vs, rfl, h1, h2⟩ := rep_tup (hv.mono (e2.trans e3))
    refine .inr ⟨a, vs, rfl, R3.wd.g.sqT h1, fun hw => ?_, fun _ p hp => ?_⟩
    · have e : cutDD ds lo hi = ds := by
        unfold cutDD
        rw [h2.length] at hw
        rw [hw.1, hw.2]
        simp
      rw [e] at q
      exact k _ _ ρ3 G3 H3 ((e1.trans e2).trans e3) R3 (.tup h1 h2) q
    · have en : Ex G3 (upd G3 p (.tup (cutV vs lo hi))) := Ex.new (R3.wd.g.none hp)
      exact k _ _ ρ3 _ _ (((e1.trans e2).trans e3).trans en) (R3.new hp) (.tup (.inl (.inl upd_same)) ((cut_reps h2 lo hi).mono en)) q
/-! ### in a list or tuple of texts -/
def strsD (xs : List Str) : List D := xs.map D.str
theorem reps_strs {H : Hp} : ∀ {vs : List V} {xs : List Str}, Reps K H vs (strsD xs) → vs = xs.map V.str
  | _, [], h => h.nil_inv
  | _, x :: xs, h => by
    obtain ⟨v, ws, rfl, h1, h2⟩ := h.cons_inv
    rw [rep_str h1, reps_strs h2]; rfl
theorem inV_strs (x : Str) : ∀ xs : List Str, inV (.str x) (xs.map V.str) = decide (x ∈ xs)
  | [] => by simp [inV]
  | y :: ys => by
    have ih := inV_strs x ys
    unfold inV at ih ⊢
    rw [List.map_cons, List.any_cons, ih]
    have e : eqV (.str y) (.str x) = decide (y = x) := by
      unfold eqV
      by_cases z : y = x
      · subst z; simp
      · simp [z]
    rw [e]
    by_cases z : y = x
    · subst z; simp
    · have z' : ¬ x = y := fun q => z q.symm
      simp [z, z']
theorem flat_strs : ∀ xs : List Str, (xs.map V.str).all flatV = true
  | [] => rfl
  | x :: xs => by rw [List.map_cons, List.all_cons, flat_strs xs]; rfl
theorem op2_in {neg : Bool} {x : Str} {y : D} {ys : List Str} (hy : y.seq = some (strsD ys)) (q : Q (.bl (if neg then !decide (x ∈ ys) else decide (x ∈ ys))) ρ) : Op2 K (rIn K neg) (.str x) y ρ Q := fun F G H σ R v w hv hw Q' k => by
  rw [rep_str hv]
  have fin : Q' (.bl (if neg then !inV (.str x) (ys.map V.str) else inV (.str x) (ys.map V.str))) H := by
    rw [inV_strs]; exact k _ _ ρ G H (Ex.refl G) R (.bl _) q
  cases y with
  | lst xs =>
    cases hy
    obtain ⟨a, vs, rfl, h1, h2⟩ := rep_lst hw
    rw [reps_strs h2] at h1
    exact ⟨a, _, rfl, .inl (.inl (.inl (R.wd.g _ _ h1))), rfl, flat_strs ys, fin⟩
  | tup xs =>
    cases hy
    obtain ⟨a, vs, rfl, h1, h2⟩ := rep_tup hw
    rw [reps_strs h2] at h1
    exact ⟨a, _, rfl, .inr (R.wd.g.sqT h1), rfl, flat_strs ys, fin⟩
  | _ => cases hy
theorem op2_sign {c : Nat} {z : Str} (q : Q (.bl (decide (c ∈ z.cps.toList))) ρ) : Op2 K (fun x y H Q => ∃ (c : Nat) (z : Str), x = .str ⟨#[c]⟩ ∧ y = .str z ∧ Q (.bl (decide (c ∈ z.cps.toList))) H) (.str ⟨#[c]⟩) (.str z) ρ Q := fun F G H σ R v w hv hw Q' k => by
  rw [rep_str hv, rep_str hw]
  exact ⟨c, z, rfl, rfl, k _ _ ρ G H (Ex.refl G) R (.bl _) q⟩
/-! ### targets: a list unpacked -/
theorem pg_or {X : Cx} {tg : Expr} {g g' : TG} (h : PG X tg g) (h' : PG X tg g') : PG X tg (fun v σ H Q => g v σ H Q ∨ g' v σ H Q) :=
  ⟨fun pins s σ H v u Q I r q => q.elim (fun q => h.run pins s σ H v u Q I r q) fun q => h'.run pins s σ H v u Q I r q⟩
theorem gw_inl {g g' : TG} {d : D} {Q : Env → Prop} (h : GW K g d ρ Q) : GW K (fun v σ H Q => g v σ H Q ∨ g' v σ H Q) d ρ Q := fun F G H σ v R hv Q' k => .inl (h F G H σ v R hv Q' k)
theorem gw_inr {g g' : TG} {d : D} {Q : Env → Prop} (h : GW K g' d ρ Q) : GW K (fun v σ H Q => g v σ H Q ∨ g' v σ H Q) d ρ Q := fun F G H σ v R hv Q' k => .inr (h F G H σ v R hv Q' k)
theorem gw_unl {n : Nat} {gs : TGs} {ds : List D} {Q : Env → Prop} (hn : ds.length = n) (h : GWs K gs ds ρ Q) : GW K (gUnl K n gs) (.lst ds) ρ Q := fun F G H σ v R hv Q' k => by
  obtain ⟨a, vs, rfl, h1, h2⟩ := rep_lst hv
  exact ⟨a, vs, rfl, .inl (.inl (R.wd.g _ _ h1)), by rw [h2.length]; exact hn, h F G H σ vs R h2 Q' k⟩
/-- a list or a tuple unpacked -/
theorem gw_seq {n : Nat} {gs gs' : TGs} {x : D} {ds : List D} {Q : Env → Prop} (hx : x.seq = some ds) (hn : ds.length = n) (h : GWs K gs ds ρ Q) (h' : GWs K gs' ds ρ Q) : GW K (fun v σ H Q => gTup K n gs v σ H Q ∨ gUnl K n gs' v σ H Q) x ρ Q := by
  cases x with
  | lst xs => cases hx; exact gw_inr (gw_unl hn h')
  | tup xs => cases hx; exact gw_inl (gw_tup hn h)
  | _ => cases hx
/-- the walk of a list or a tuple -/
theorem ei_seq {Q : List D → Env → Prop} (x : D) {ds : List D} (hx : x.seq = some ds) (h : EvW K te ρ fun d ρ1 => d = x ∧ Q ds ρ1) : EvI K (fun σ H R => iList K te σ H R ∨ iTup K te σ H R) ρ Q := by
  cases x with
  | lst xs => cases hx; exact ei_inl (ei_list (ew_weak h fun d ρ1 z => ⟨ds, z.1, z.2⟩))
  | tup xs => cases hx; exact ei_inr (ei_tup (ew_weak h fun d ρ1 z => ⟨ds, z.1, z.2⟩))
  | _ => cases hx
theorem ei_enum {Q : List D → Env → Prop} (x : D) {ds : List D} (hx : x.seq = some ds) (h : EvA K ts ρ fun xs ρ1 => xs = [x] ∧ Q (enumD ds) ρ1) : EvI K (fun σ H R => iEnum K ts σ H R ∨ iEnumT K ts σ H R) ρ Q := by
  cases x with
  | lst xs => cases hx; exact ei_enumL fun F G H σ R Q' k => h F G H σ R Q' fun vs ys ρ' G' H' e R1 hv q => k vs ys ρ' G' H' e R1 hv ⟨ds, q.1, q.2⟩
  | tup xs => cases hx; exact ei_enumT fun F G H σ R Q' k => h F G H σ R Q' fun vs ys ρ' G' H' e R1 hv q => k vs ys ρ' G' H' e R1 hv ⟨ds, q.1, q.2⟩
  | _ => cases hx
/-- a slice of a list or of a tuple, to be read at once -/
theorem ew_slU {tl th : TO} (x : D) {ds : List D} (hx : x.seq = some ds) (h : EvW K te ρ fun d ρ1 => d = x ∧ EvO K tl ρ1 fun lo ρ2 => EvO K th ρ2 fun hi ρ3 => ∀ y : D, y.seq = some (cutDD ds lo hi) → Q y ρ3) : EvW K (tSl (rSlU K) te tl th) ρ Q := by
  cases x with
  | lst xs =>
    cases hx
    refine ew_new (en_slL (ew_weak h fun d ρ1 z => ?_))
    refine fun F G H σ R Q' k => z.2 F G H σ R Q' fun lo ρ2 G2 H2 e2 R2 q2 => k lo ρ2 G2 H2 e2 R2 fun F G H σ R Q' k => q2 F G H σ R Q' fun hi ρ3 G3 H3 e3 R3 q3 => k hi ρ3 G3 H3 e3 R3 ⟨ds, z.1, q3 _ rfl⟩
  | tup xs =>
    cases hx
    refine ew_slT (ew_weak h fun d ρ1 z => ?_)
    refine fun F G H σ R Q' k => z.2 F G H σ R Q' fun lo ρ2 G2 H2 e2 R2 q2 => k lo ρ2 G2 H2 e2 R2 fun F G H σ R Q' k => q2 F G H σ R Q' fun hi ρ3 G3 H3 e3 R3 q3 => k hi ρ3 G3 H3 e3 R3 ⟨ds, z.1, q3 _ rfl⟩
  | _ => cases hx
/-- a, b = x, y -/
theorem ws_par {i j : Nat} {E : EndD} (h : EvA K ts ρ fun ds ρ1 => ∃ d e, ds = [d, e] ∧ E.nx ((ρ1.set i (.sh d)).set j (.sh e))) : WS K (tPar i j ts) ρ E := fun F G H σ Dn R L =>
  h F G H σ R _ fun vs ds ρ1 G1 H1 e1 R1 hv q => by
    obtain ⟨d, e, rfl, q⟩ := q
    obtain ⟨v, w, rfl, h1, h2⟩ := hv.two
    exact ⟨v, w, rfl, L.nx _ _ G1 H1 e1 ((R1.setSh h1 i).setSh h2 j) q⟩
/-- a comprehension of tests over some data, all of it -/
theorem en_lcB {wi : TI} {g : TG} {vs : List Nat} {f : D → Bool} (h : EvI K wi ρ fun ds ρ1 => ownFree ρ1 vs = true ∧ ds.length ≤ 90000 ∧
      (∀ (i : Nat) d, ds[i]? = some d → GV K g vs d (wipeE ρ1 vs) fun ρ2 => EvW K te ρ2 fun y ρ4 => ρ4 = ρ2 ∧ y = .bl (f d)) ∧
      Q (.lst ((ds.map f).map D.bl)) ρ1) : EvN K (tLc wi g tYes te vs) ρ Q := by
  refine en_lc fun F G H σ R R' k => h F G H σ R R' fun J ds ρ' G' H' e R1 Y q => k J ds ρ' G' H' e R1 Y ?_
  obtain ⟨h1, h2, h3, h4⟩ := q
  refine ⟨h1, h2, fun i acc => acc = ((ds.map f).map D.bl).take i, rfl, fun i d acc hd hp => ?_, fun acc hp => ?_⟩
  · subst hp
    refine fun F G H σ v R hv Q' k => h3 i d hd F G H σ v R hv Q' fun σ' ρ2 l s R2 q2 => k σ' ρ2 l s R2 (et_yes ⟨rfl, ?_⟩)
    show EvW K te ρ2 _
    refine ew_weak q2 fun y ρ4 z => ⟨z.1, ?_⟩
    show _ ++ [y] = List.take (i + 1) _
    rw [z.2, List.take_add_one]
    simp [hd]
  · subst hp
    have e : ((ds.map f).map D.bl).take ds.length = (ds.map f).map D.bl := List.take_of_length_le (by simp)
    rw [e]; exact h4
end
end DL

set_option Elab.async false
set_option linter.all false
set_option maxRecDepth 100000
namespace DL
open PySem PySem.Spec PyProof.Rows L2
/-! ### rules with the written part told by its own letter (within comprehensions) -/
section
variable {X : Cx} {K : PySem.W.Frag}
theorem kin (h : X.K = K) : OpR X (compareOp .In) (rIn K false) := h ▸ op_in_seq
theorem knotin (h : X.K = K) : OpR X (compareOp .NotIn) (rIn K true) := h ▸ op_notIn_seq
theorem kix (h : X.K = K) : IxR X (rIx K) := h ▸ ix_seq
theorem ksl (h : X.K = K) : SlR X (rSlU K) := h ▸ sl_U
theorem klen (h : X.K = K) : CallR X (.builtin "len") (rLenU K) := h ▸ call_lenU
theorem kisi (h : X.K = K) : CallR X (.builtin "isinstance") (rIsi K) := h ▸ call_isi
theorem kisiT (h : X.K = K) : CallR X (.builtin "isinstance") (rIsiT K) := h ▸ call_isiT
theorem kall (hc : X.calm = true) (h : X.K = K) : CallR X (.builtin "all") (rAll K) := h ▸ cr_all hc
theorem kany (hc : X.calm = true) (h : X.K = K) : CallR X (.builtin "any") (rAny K) := h ▸ cr_any hc
theorem keqD (h : X.K = K) (hu : X.A.units + 64 < cLine) : OpR X (compareOp .Eq) (rEqD K) := h ▸ op_eqD hu
theorem kneD (h : X.K = K) (hu : X.A.units + 64 < cLine) : OpR X (compareOp .NotEq) (rNeD K) := h ▸ op_neD hu
theorem kcatA (h : X.K = K) : OpR X (binaryOp .Add) (rCatA K) := h ▸ op_catA
def rTupOf (K : PySem.W.Frag) : List V → Hp → VK → Prop := fun xs H Q => ∃ p ys, xs = [.ref p] ∧ ((SqL K H p ys ∧ ∀ l, H l = none → Q (.ref l) (upd H l (.tup ys))) ∨ (SqT K H p ys ∧ Q (.ref p) H))
def rLstOf (K : PySem.W.Frag) : List V → Hp → VK → Prop := fun xs H Q => ∃ p ys, xs = [.ref p] ∧ (SqL K H p ys ∨ SqT K H p ys) ∧ ∀ l, H l = none → Q (.ref l) (upd H l (.lst ys))
theorem ktuple (h : X.K = K) : CallR X (.type "tuple") (rTupOf K) := h ▸ call_tuple_of
theorem klist (h : X.K = K) : CallR X (.type "list") (rLstOf K) := h ▸ call_list_of
theorem kfld {e : Expr} {ta : TE} {f : Str} {pos : Pos} (h : X.K = K) (he : PE X e ta) (hb : attributeBase e f X.env (eval e X.env) = eval e X.env) : PE X (.Attribute e f pos) (tFld K ta f) := h ▸ pe_fld he hb
theorem kwl {tg e : Expr} {te : TE} (h : X.K = K) (he : PE X e te) : PI X tg e (iList K te) := h ▸ pi_list he
theorem kwt {tg e : Expr} {te : TE} (h : X.K = K) (he : PE X e te) : PI X tg e (iTup K te) := h ▸ pi_tup he
theorem kwU {tg e : Expr} {te : TE} (h : X.K = K) (he : PE X e te) : PI X tg e (fun σ H R => iList K te σ H R ∨ iTup K te σ H R) := pi_or (kwl h he) (kwt h he)
theorem kenum {e : Expr} {ta : TA} {p pos tpos : Pos} {elts : List Expr} {kk : Nat} (h : X.K = K) (hg : Gl X "enumerate") (hm : X.mg "enumerate" = none) (ha : PA X [e] ta) (hs : starEach [e] X.env = [(false, eval e X.env)] := by rfl) :
    PI X (.Tuple elts kk tpos) (.Call (.Name "enumerate" p) [e] [] pos) (fun σ H R => iEnum K ta σ H R ∨ iEnumT K ta σ H R) := h ▸ pi_enumU hg hm ha hs
theorem kzip {e e2 : Expr} {ta : TA} {p pos tpos : Pos} {elts : List Expr} {kk : Nat} (h : X.K = K) (hg : Gl X "zip") (hm : X.mg "zip" = none) (ha : PA X [e, e2] ta)
    (hs : starEach [e, e2] X.env = (false, eval e X.env) :: starEach [e2] X.env := by rfl) (hpl : (backTo pos (starEach [e2] X.env)).any (·.1) = false := by rfl) :
    PI X (.Tuple elts kk tpos) (.Call (.Name "zip" p) [e, e2] [] pos) (iZip K ta) := h ▸ pi_zip hg hm ha hs hpl
theorem kgt {es : List Expr} {k : Nat} {t : TGs} {n : Nat} {pos : Pos} (h : X.K = K) (hc : X.calm = true) (hg : PGs X es t) (hn : (assignEach es X.env).length = n := by rfl) (hst : (assignEach es X.env).findIdx? (·.1) = none := by rfl) : PG X (.Tuple es k pos) (gTup K n t) := h ▸ pg_tup hc hg hn hst
theorem kgu {es : List Expr} {k : Nat} {t : TGs} {n : Nat} {pos : Pos} (h : X.K = K) (hc : X.calm = true) (hg : PGs X es t) (hn : (assignEach es X.env).length = n := by rfl) (hst : (assignEach es X.env).findIdx? (·.1) = none := by rfl) : PG X (.Tuple es k pos) (gUnl K n t) := h ▸ pg_unl hc hg hn hst
theorem kbm {o e : Expr} {es : List Expr} {name : Str} {apos cpos : Pos} {T : String} {id : String} {r : V → List V → Hp → VK → Prop} {to : TE} {t : TA} (h : X.K = K) (hp : PE X (.Call (.Attribute o name apos) (e :: es) [] cpos) (tBM X.K T r to t)) : PE X (.Call (.Attribute o name apos) (e :: es) [] cpos) (tBM K T r to t) := h ▸ hp
theorem kbm0 {o : Expr} {name : Str} {apos cpos : Pos} {T : String} {r : V → List V → Hp → VK → Prop} {to : TE} (h : X.K = K) (hp : PE X (.Call (.Attribute o name apos) [] [] cpos) (tBM0 X.K T r to)) : PE X (.Call (.Attribute o name apos) [] [] cpos) (tBM0 K T r to) := h ▸ hp
end
/-- if t: .. without else, the way that goes on told by C -/
theorem ws_ifn {K : PySem.W.Frag} {tt : TT} {t : TS} {ρ : Env} {E : EndD} {C : Prop} (h : EvT K tt ρ fun b ρ' => if b = true then WS K t ρ' E else ρ' = ρ ∧ C) (k : C → E.nx ρ) : WS K (tIfS tt t tNext) ρ E :=
  ws_if (et_weak h fun b ρ' q => by
    cases b with
    | true => exact q
    | false =>
      obtain ⟨rfl, c⟩ := q
      exact ws_next (k c))
end DL

set_option Elab.async false
set_option linter.all false
set_option maxRecDepth 100000
namespace DL
open PySem PySem.Spec PyProof.Rows L2
section
variable {K : PySem.W.Frag} {te ta tb tc td ty tv : TE} {tt tu : TT} {ts : TA} {ρ : Env} {Q : D → Env → Prop} {E : EndD}
/-! ### the state of draws -/
theorem ew_drwix {i : Nat} {a : Addr} {j : Int} (hi : ρ[i]? = some (.drw a)) (hj : 0 ≤ j ∧ j < 3) (h : ∀ x, Q (.int x) ρ) : EvW K (tOp (rIx K) (tVar i) (tC (.int j))) ρ Q := fun F G H σ R Q' k => by
  obtain ⟨s, hs, rfl, _, _, x, y, z, hd⟩ := R.sl.get hi
  have key : ∃ n, atI ([.int x, .int y, .int z] : List V) j = some (.int n) := by
    have : j = 0 ∨ j = 1 ∨ j = 2 := by omega
    rcases this with rfl | rfl | rfl
    · exact ⟨x, rfl⟩
    · exact ⟨y, rfl⟩
    · exact ⟨z, rfl⟩
  obtain ⟨n, hn⟩ := key
  exact ⟨.ref a, hs, .inl ⟨a, _, j, .int n, rfl, rfl, .inl (.inl hd), hn, k _ _ ρ G H (Ex.refl G) R (.int n) (h n)⟩⟩
theorem ws_drwset {i : Nat} {a : Addr} {j : Int} (hi : ρ[i]? = some (.drw a)) (hj : 0 ≤ j ∧ j < 3) (h : EvW K te ρ fun d ρ1 => ∃ n, d = .int n ∧ ρ1[i]? = some (.drw a) ∧ E.nx ρ1) : WS K (tAsg te (gSub (tVar i) (tC (.int j)) rSetL)) ρ E := fun F G H σ Dn R L =>
  h F G H σ R _ fun v d ρ1 G1 H1 e1 R1 hv q => by
    obtain ⟨n, rfl, hi1, q⟩ := q
    rw [rep_int hv]
    obtain ⟨s, hs, rfl, hG, hF, x, y, z, hd⟩ := R1.sl.get hi1
    have key : ∃ m, ixN 3 j = some m ∧ ∃ x' y' z', ([.int x, .int y, .int z] : List V).set m (.int n) = [.int x', .int y', .int z'] := by
      have : j = 0 ∨ j = 1 ∨ j = 2 := by omega
      rcases this with rfl | rfl | rfl
      · exact ⟨0, rfl, n, y, z, rfl⟩
      · exact ⟨1, rfl, x, n, z, rfl⟩
      · exact ⟨2, rfl, x, y, n, rfl⟩
    obtain ⟨m, hm, x', y', z', es⟩ := key
    refine ⟨.ref a, hs, a, _, j, m, rfl, rfl, hd, hm, ?_⟩
    rw [es]
    have R2 := R1.mut (r' := .drw a) (o := .lst [.int x', .int y', .int z']) hi1 (List.mem_singleton.mpr rfl) (List.Sublist.refl _) hs ⟨rfl, hG, hF, x', y', z', upd_same⟩
    rw [set_same hi1] at R2
    exact L.nx _ _ G1 _ e1 R2 q
/-! ### own lists -/
theorem ew_append {i : Nat} {a : Addr} {d0 : List D} (hi : ρ[i]? = some (.own a (.lst d0))) (h : EvW K te ρ fun d ρ1 => ∃ ds, ρ1[i]? = some (.own a (.lst ds)) ∧ ds.length < 90000 ∧ Q .non (ρ1.set i (.own a (.lst (ds ++ [d]))))) :
    EvW K (tBM K "list" rAppend (tVar i) (tCons te tNil)) ρ Q := fun F G H σ R Q' k => by
  obtain ⟨s, hs, rfl, _, _, vs0, hd0, _⟩ := R.sl.get hi
  refine ⟨.ref a, hs, .inl ⟨rfl, vs0, .inl (.inl hd0)⟩, h F G H σ R _ fun v d ρ1 G1 H1 e1 R1 hv q => ?_⟩
  obtain ⟨ds, hi1, hl, q⟩ := q
  obtain ⟨_, hs1, e, hG, hF, vs, hd, hr⟩ := R1.sl.get hi1
  refine ⟨a, vs, v, rfl, rfl, hd, by rw [hr.length]; exact bigl (by omega), ?_⟩
  exact k .non .non _ G1 _ e1 (R1.mut (r' := .own a (.lst (ds ++ [d]))) hi1 (List.mem_singleton.mpr rfl) (List.Sublist.refl _) hs ⟨rfl, hG, hF, _, upd_same, hr.append (.cons hv .nil)⟩) .non q
theorem ew_popAt {i : Nat} {a : Addr} {d0 : List D} (hi : ρ[i]? = some (.own a (.lst d0))) (h : EvW K te ρ fun d ρ1 => ∃ ds j y, d = .int j ∧ ρ1[i]? = some (.own a (.lst ds)) ∧ 0 ≤ j ∧ j < 100000 ∧ ds[j.toNat]? = some y ∧ Q y (ρ1.set i (.own a (.lst (ds.eraseIdx j.toNat))))) :
    EvW K (tBM K "list" rPopAt (tVar i) (tCons te tNil)) ρ Q := fun F G H σ R Q' k => by
  obtain ⟨s, hs, rfl, _, _, vs0, hd0, _⟩ := R.sl.get hi
  refine ⟨.ref a, hs, .inl ⟨rfl, vs0, .inl (.inl hd0)⟩, h F G H σ R _ fun v d ρ1 G1 H1 e1 R1 hv q => ?_⟩
  obtain ⟨ds, j, y, rfl, hi1, h0, h1, hy, q⟩ := q
  rw [rep_int hv]
  obtain ⟨_, hs1, e, hG, hF, vs, hd, hr⟩ := R1.sl.get hi1
  obtain ⟨x, hx, hxr⟩ := hr.get hy
  have hlt := (List.getElem?_eq_some_iff.mp hx).1
  have hj : ixN vs.length j = some j.toNat := by
    unfold ixN
    rw [if_pos h0, if_pos (by omega)]
  refine ⟨a, vs, j, j.toNat, x, rfl, rfl, hd, by omega, by omega, (ixN_seq hj).1, hx, ?_⟩
  exact k x y _ G1 _ e1 (R1.mut (r' := .own a (.lst (ds.eraseIdx j.toNat))) hi1 (List.mem_singleton.mpr rfl) (List.Sublist.refl _) hs ⟨rfl, hG, hF, _, upd_same, hr.eraseIdx _⟩) hxr q
/-! ### own dicts -/
def dput {κ : Type} [DecidableEq κ] (ps : List (κ × D)) (k : κ) (d : D) : List (κ × D) :=
  if (ps.any fun kv => decide (kv.1 = k)) = true then ps.map (fun kv => if kv.1 = k then (kv.1, d) else kv) else ps ++ [(k, d)]
theorem any_keys {κ α β : Type} [DecidableEq κ] (k : κ) : ∀ {kvs : List (κ × α)} {ps : List (κ × β)}, kvs.map (·.1) = ps.map (·.1) → (kvs.any fun kv => decide (kv.1 = k)) = ps.any fun kv => decide (kv.1 = k)
  | [], [], _ => rfl
  | [], _ :: _, e => by simp at e
  | _ :: _, [], e => by simp at e
  | kv :: kvs, p :: ps, e => by
    simp only [List.map_cons, List.cons.injEq] at e
    rw [List.any_cons, List.any_cons, any_keys k e.2, e.1]
theorem put_rel {κ : Type} [DecidableEq κ] {H : Hp} {kvs : List (κ × V)} {ps : List (κ × D)} {k : κ} {v : V} {d : D} (e : kvs.map (·.1) = ps.map (·.1)) (r : Reps K H (kvs.map (·.2)) (ps.map (·.2))) (hv : Rep K H v d) :
    (putK kvs k v).map (·.1) = (dput ps k d).map (·.1) ∧ Reps K H ((putK kvs k v).map (·.2)) ((dput ps k d).map (·.2)) := by
  unfold putK dput
  rw [any_keys k e]
  split
  · have key : ∀ {kvs : List (κ × V)} {ps : List (κ × D)}, kvs.map (·.1) = ps.map (·.1) → Reps K H (kvs.map (·.2)) (ps.map (·.2)) →
        (kvs.map fun kv => if kv.1 = k then (kv.1, v) else kv).map (·.1) = (ps.map fun kv => if kv.1 = k then (kv.1, d) else kv).map (·.1) ∧ Reps K H ((kvs.map fun kv => if kv.1 = k then (kv.1, v) else kv).map (·.2)) ((ps.map fun kv => if kv.1 = k then (kv.1, d) else kv).map (·.2)) := by
      intro kvs
      induction kvs with
      | nil => intro ps e r; cases ps with
        | nil => exact ⟨rfl, .nil⟩
        | cons _ _ => simp at e
      | cons kv kvs ih =>
        intro ps e r
        cases ps with
        | nil => simp at e
        | cons p ps =>
          simp only [List.map_cons, List.cons.injEq] at e
          cases r with
          | cons r1 r2 =>
            obtain ⟨i1, i2⟩ := ih e.2 r2
            simp only [List.map_cons]
            by_cases hk : kv.1 = k
            · have hp : p.1 = k := e.1 ▸ hk
              rw [if_pos hk, if_pos hp]
              exact ⟨by rw [i1, e.1], .cons hv i2⟩
            · have hp : ¬ p.1 = k := fun z => hk (e.1.trans z)
              rw [if_neg hk, if_neg hp]
              exact ⟨by rw [i1, e.1], .cons r1 i2⟩
    exact key e r
  · rw [List.map_append, List.map_append, List.map_append, List.map_append, e]
    exact ⟨rfl, r.append (.cons hv .nil)⟩
/-- d[k] = v, d the def's own -/
theorem ws_dput {i : Nat} {a : Addr} (h : EvW K tv ρ fun d ρ1 => (∃ p0, ρ1[i]? = some (.own a p0)) ∧ EvW K ty ρ1 fun y ρ2 => ∃ k ps, y = kD k ∧ ρ2[i]? = some (.own a (.dk ps)) ∧ ps.length < 90000 ∧ E.nx (ρ2.set i (.own a (.dk (dput ps k d))))) :
    WS K (sDPut (tVar i) ty tv) ρ E := fun F G H σ Dn R L =>
  h F G H σ R _ fun v d ρ1 G1 H1 e1 R1 hv q => by
    obtain ⟨⟨p0, hi1⟩, q⟩ := q
    obtain ⟨_, hs1, rfl, _⟩ := R1.sl.get hi1
    refine ⟨.ref a, hs1, q F G1 H1 σ R1 _ fun w y ρ2 G2 H2 e2 R2 hw q2 => ?_⟩
    obtain ⟨kk, ps, rfl, hi2, hl, q2⟩ := q2
    obtain ⟨_, hs2, e, hG, hF, kvs, hd, hk, hr⟩ := R2.sl.get hi2
    obtain ⟨z1, z2⟩ := put_rel (k := kk) hk hr (hv.mono e2)
    have hlen : kvs.length = ps.length := by have := congrArg List.length hk; simpa using this
    refine ⟨a, upd H2 a (.dK (putK kvs kk v)), rfl, .inl ⟨kvs, kk, hd, rep_kD hw, by rw [hlen]; exact bigl (by omega), rfl⟩, ?_⟩
    exact L.nx _ _ G2 _ (e1.trans e2) (R2.mut (r' := .own a (.dk (dput ps kk d))) hi2 (List.mem_singleton.mpr rfl) (List.Sublist.refl _) hs1 ⟨rfl, hG, hF, _, upd_same, z1, z2⟩) q2
/-! ### own things looked at -/
def D.flat : D → Bool
  | .non => true
  | .bl _ => true
  | .int _ => true
  | .str _ => true
  | _ => false
theorem flat_rep {H H' : Hp} {v : V} {d : D} (hf : d.flat = true) (h : Rep K H v d) : Rep K H' v d := by
  cases h with
  | non => exact .non
  | bl b => exact .bl b
  | int b => exact .int b
  | str b => exact .str b
  | _ => cases hf
def shr : Sl → Sl
  | .own _ d => .sh d
  | r => r
def ownO (ρ : Env) : List Addr := ρ.flatMap fun r => match r with
  | .own a _ => [a]
  | _ => []
theorem ownO_sub {a : Addr} (m : a ∈ ownO ρ) : ∃ (i : Nat) (d : D), ρ[i]? = some (Sl.own a d) := by
  obtain ⟨r, hr, m⟩ := List.mem_flatMap.mp m
  obtain ⟨i, hi⟩ := List.mem_iff_getElem?.mp hr
  cases r with
  | own b d => exact ⟨i, d, by rw [hi, List.mem_singleton.mp m]⟩
  | _ => cases m
theorem ownO_mem {a : Addr} {i : Nat} {d : D} (h : ρ[i]? = some (.own a d)) : a ∈ ownO ρ := List.mem_flatMap.mpr ⟨_, List.mem_of_getElem? h, List.mem_singleton.mpr rfl⟩
theorem slots_map {F G H F' G' H' : Hp} {f : Sl → Sl} : ∀ {σ : L2.St} {ρ : Env}, Slots K F G H σ ρ → (∀ (i : Nat) s r, σ[i]? = some s → ρ[i]? = some r → SlotOk K F G H s r → SlotOk K F' G' H' s (f r)) → Slots K F' G' H' σ (ρ.map f)
  | [], [], _, _ => trivial
  | [], _ :: _, h, _ => h.elim
  | _ :: _, [], h, _ => h.elim
  | s :: σ, r :: ρ, h, k => ⟨k 0 s r rfl rfl h.1, slots_map h.2 fun i s' r' hs hr => k (i + 1) s' r' (by simpa using hs) (by simpa using hr)⟩
theorem ownA_shr : ∀ ρ : Env, (ownA (ρ.map shr)).Sublist (ownA ρ)
  | [] => List.Sublist.refl _
  | r :: ρ => by
    rw [List.map_cons, ownA_cons, ownA_cons]
    refine List.Sublist.append ?_ (ownA_shr ρ)
    cases r <;> first | exact List.Sublist.refl _ | exact List.nil_sublist _
theorem ew_peek (h : EvW K te (ρ.map shr) fun d ρ' => ρ' = ρ.map shr ∧ d.flat = true ∧ Q d ρ) : EvW K te ρ Q := fun F G H σ R Q' k => by
  have gx : Ex G (addF G H (ownO ρ)) := fun b u e => by
    by_cases m : b ∈ ownO ρ
    · obtain ⟨i, d, hi⟩ := ownO_sub m
      rw [(R.sl.own (adr_mem hi (List.mem_singleton.mpr rfl))).1] at e; cases e
    · rw [addF_out m]; exact e
  have R1 : RE K F (addF G H (ownO ρ)) H σ (ρ.map shr) := by
    refine ⟨⟨R.wd.f, fun b u e => ?_, fun b u e => ?_⟩, slots_map R.sl (fun i s r hs hr q => ?_), List.Nodup.sublist (ownA_shr ρ) R.nd⟩
    · by_cases m : b ∈ ownO ρ
      · rw [addF_in m] at e; exact e
      · rw [addF_out m] at e; exact R.wd.g b u e
    · by_cases m : b ∈ ownO ρ
      · obtain ⟨i, d, hi⟩ := ownO_sub m
        rw [(R.sl.own (adr_mem hi (List.mem_singleton.mpr rfl))).2.1] at e; cases e
      · rw [addF_out m]; exact R.wd.fg b u e
    · cases r with
      | own a d =>
        obtain ⟨h0, h1, h2, h3⟩ := q
        exact ⟨.ref a, h0, ownR_rep h3 (addF_in (ownO_mem hr)) gx⟩
      | un => trivial
      | sh d => exact q.step gx fun a m => by cases m
      | drw a =>
        refine q.step gx fun b m => ⟨rfl, ?_⟩
        rw [addF_out fun z => ?_]
        · exact (q.own m).1
        · obtain ⟨j, d, hj⟩ := ownO_sub z
          by_cases e : i = j
          · subst e; rw [hr] at hj; cases hj
          · exact nodup_apart R.nd hr hj e m (List.mem_singleton.mpr rfl)
      | two p q' xs ys =>
        refine q.step gx fun b m => ⟨rfl, ?_⟩
        rw [addF_out fun z => ?_]
        · exact (q.own m).1
        · obtain ⟨j, d, hj⟩ := ownO_sub z
          by_cases e : i = j
          · subst e; rw [hr] at hj; cases hj
          · exact nodup_apart R.nd hr hj e m (List.mem_singleton.mpr rfl)
  refine h F _ H σ R1 Q' fun v d ρ' G2 H2 e2 R2 hv q => ?_
  obtain ⟨rfl, hf, q⟩ := q
  have own2 : ∀ b, b ∈ ownO ρ → H2 b = H b := fun b m => by
    obtain ⟨i, d, hi⟩ := ownO_sub m
    obtain ⟨_, _, u, hu, _⟩ := R.sl.own (adr_mem hi (List.mem_singleton.mpr rfl))
    rw [hu]
    exact R2.wd.g b u (e2 b u (by rw [addF_in m]; exact hu))
  let G3 : Hp := fun b => if b ∈ ownO ρ then none else G2 b
  have g3i : ∀ {b}, b ∈ ownO ρ → G3 b = none := fun m => if_pos m
  have g3o : ∀ {b}, b ∉ ownO ρ → G3 b = G2 b := fun m => if_neg m
  have e3 : Ex G G3 := fun b u e => by
    by_cases m : b ∈ ownO ρ
    · obtain ⟨i, d, hi⟩ := ownO_sub m
      rw [(R.sl.own (adr_mem hi (List.mem_singleton.mpr rfl))).1] at e; cases e
    · rw [g3o m]; exact e2 b u (gx b u e)
  refine k v d ρ G3 H2 e3 ⟨⟨R2.wd.f, fun b u e => ?_, fun b u e => ?_⟩, R.sl.map (fun i s r hs hr z => ?_), R.nd⟩ (flat_rep hf hv) q
  · by_cases m : b ∈ ownO ρ
    · rw [g3i m] at e; cases e
    · rw [g3o m] at e; exact R2.wd.g b u e
  · by_cases m : b ∈ ownO ρ
    · exact g3i m
    · rw [g3o m]; exact R2.wd.fg b u e
  · have hr2 : (ρ.map shr)[i]? = some (shr r) := by rw [List.getElem?_map, hr]; rfl
    obtain ⟨s', hs', z2⟩ := R2.sl.get hr2
    rw [hs] at hs'; cases hs'
    have out : ∀ {b}, (∀ d, r ≠ .own b d) → b ∈ r.adr → b ∉ ownO ρ := fun {b} hne m z => by
      obtain ⟨j, d, hj⟩ := ownO_sub z
      by_cases e : i = j
      · subst e; rw [hr] at hj; cases hj; exact hne d rfl
      · exact nodup_apart R.nd hr hj e m (List.mem_singleton.mpr rfl)
    cases r with
    | un => trivial
    | sh d => exact z.step e3 fun a m => by cases m
    | own a d =>
      refine z.step e3 fun b m => ?_
      rw [List.mem_singleton.mp m]
      exact ⟨own2 a (ownO_mem hr), g3i (ownO_mem hr)⟩
    | drw a =>
      obtain ⟨h0, h1, h2, h3⟩ := z2
      exact ⟨h0, by rw [g3o (out (fun d z => nomatch z) (List.mem_singleton.mpr rfl))]; exact h1, h2, h3⟩
    | two p q' xs ys =>
      obtain ⟨⟨t, h0, ht⟩, h1, h2, h3, h4, h5, h6⟩ := z2
      obtain ⟨⟨t', h0', ht'⟩, _⟩ := z
      have et : t' = t := by rw [h0] at h0'; cases h0'; rfl
      subst et
      exact ⟨⟨t', h0, e3 _ _ ht'⟩, by rw [g3o (out (fun d z => nomatch z) List.mem_cons_self)]; exact h1, h2, by rw [g3o (out (fun d z => nomatch z) (List.mem_cons_of_mem _ (List.mem_singleton.mpr rfl)))]; exact h3, h4, h5, h6⟩
theorem et_peek {Q : Bool → Env → Prop} (h : EvT K tt (ρ.map shr) fun d ρ' => ρ' = ρ.map shr ∧ Q d ρ) : EvT K tt ρ Q := by
  intro F G H σ R Q' k
  -- a test as an expression of a truth value
  exact ew_peek (K := K) (te := fun σ H Q => tt σ H fun b H1 => Q (.bl b) H1) (ρ := ρ) (Q := fun d ρ' => ∃ b, d = .bl b ∧ Q b ρ')
    (fun F G H σ R Q' k => h F G H σ R _ fun b ρ' G' H' e R' q => k (.bl b) (.bl b) ρ' G' H' e R' (.bl b) ⟨q.1, rfl, b, rfl, q.2⟩)
    F G H σ R (fun v H1 => match v with | .bl b => Q' b H1 | _ => True) fun v d ρ' G' H' e R' hv q => by
      obtain ⟨b', rfl, q⟩ := q
      rw [rep_bl hv]
      exact k _ ρ' G' H' e R' q
end
end DL

set_option Elab.async false
set_option linter.all false
set_option maxRecDepth 100000
namespace DL
open PySem PySem.Spec PyProof.Rows L2
section
variable {K : PySem.W.Frag} {te ta tb tc td ty tv : TE} {tt tu : TT} {ts : TA} {ρ : Env} {Q : D → Env → Prop} {E : EndD}
/-! ### new lists and tuples -/
theorem en_of {F G H : Hp} {σ : L2.St} {ρ : Env} (R : RE K F G H σ ρ) {p : Addr} (hp : H p = none) {vs : List V} {ds : List D} (hr : Reps K G vs ds) :
    RE K F G (upd H p (.lst vs)) σ ρ ∧ G p = none ∧ F p = none ∧ p ∉ ownA ρ ∧ OwnR K G (upd H p (.lst vs) p) (.lst ds) :=
  ⟨R.alone hp, R.wd.g.none hp, R.wd.f.none hp, ownA_fresh R hp, vs, upd_same, hr⟩
theorem tn_of {F G H : Hp} {σ : L2.St} {ρ : Env} (R : RE K F G H σ ρ) {p : Addr} (hp : H p = none) {vs : List V} {ds : List D} (hr : Reps K G vs ds) :
    Ex G (upd G p (.tup vs)) ∧ RE K F (upd G p (.tup vs)) (upd H p (.tup vs)) σ ρ ∧ Rep K (upd G p (.tup vs)) (.ref p) (.tup ds) :=
  ⟨Ex.new (R.wd.g.none hp), R.new hp, .tup (.inl (.inl upd_same)) (hr.mono (Ex.new (R.wd.g.none hp)))⟩
/-- xs + ys, lists -/
theorem en_cat (h : EvW K ta ρ fun x ρ1 => EvW K tb ρ1 fun y ρ2 => ∃ xs ys, x = .lst xs ∧ y = .lst ys ∧ xs.length + ys.length ≤ 90000 ∧ Q (.lst (xs ++ ys)) ρ2) : EvN K (tOp rCat ta tb) ρ Q := fun F G H σ R Q' k =>
  h F G H σ R _ fun v x ρ1 G1 H1 e1 R1 hv q1 => q1 F G1 H1 σ R1 _ fun w y ρ2 G2 H2 e2 R2 hw q2 => by
    obtain ⟨xs, ys, rfl, rfl, hl, q⟩ := q2
    obtain ⟨a, vs, rfl, h1, h2⟩ := rep_lst (hv.mono e2)
    obtain ⟨b, ws, rfl, h3, h4⟩ := rep_lst hw
    refine ⟨a, b, vs, ws, rfl, rfl, R2.wd.g _ _ h1, R2.wd.g _ _ h3, by rw [h2.length, h4.length]; exact big (by omega), fun p hp => ?_⟩
    obtain ⟨z1, z2, z3, z4, z5⟩ := en_of R2 hp (h2.append h4)
    exact k p _ ρ2 G2 _ (e1.trans e2) z1 z2 z3 z4 z5 q
/-- t + u, tuples -/
theorem op2_catT {xs ys : List D} (hl : xs.length + ys.length ≤ 90000) (q : Q (.tup (xs ++ ys)) ρ) : Op2 K (rCatA K) (.tup xs) (.tup ys) ρ Q := fun F G H σ R v w hv hw Q' k => by
  obtain ⟨a, vs, rfl, h1, h2⟩ := rep_tup hv
  obtain ⟨b, ws, rfl, h3, h4⟩ := rep_tup hw
  have l1 := h2.length
  have l2 := h4.length
  refine ⟨a, b, vs, ws, rfl, rfl, R.wd.g.sqT h1, R.wd.g.sqT h3, by rw [l1, l2]; exact big (by omega), fun e => ?_, fun _ e => ?_, fun _ _ p hp => ?_⟩
  · have : xs = [] := List.length_eq_zero_iff.mp (by rw [← l1, e]; rfl)
    subst this
    exact k _ _ ρ G H (Ex.refl G) R (.tup h3 h4) q
  · have : ys = [] := List.length_eq_zero_iff.mp (by rw [← l2, e]; rfl)
    subst this
    rw [List.append_nil] at q
    exact k _ _ ρ G H (Ex.refl G) R (.tup h1 h2) q
  · obtain ⟨z1, z2, z3⟩ := tn_of R hp (h2.append h4)
    exact k _ _ ρ _ _ z1 z2 z3 q
/-- tuple(x), list(x) -/
theorem opa_tuple {x : D} {ds : List D} (hx : x.seq = some ds) (q : Q (.tup ds) ρ) : OpA K (rTupOf K) [x] ρ Q := fun F G H σ R vs hv Q' k => by
  obtain ⟨v, rfl, h⟩ := hv.one
  cases x with
  | lst xs =>
    cases hx
    obtain ⟨a, ws, rfl, h1, h2⟩ := rep_lst h
    refine ⟨a, ws, rfl, .inl ⟨.inl (.inl (R.wd.g _ _ h1)), fun p hp => ?_⟩⟩
    obtain ⟨z1, z2, z3⟩ := tn_of R hp h2
    exact k _ _ ρ _ _ z1 z2 z3 q
  | tup xs =>
    cases hx
    obtain ⟨a, ws, rfl, h1, h2⟩ := rep_tup h
    exact ⟨a, ws, rfl, .inr ⟨R.wd.g.sqT h1, k _ _ ρ G H (Ex.refl G) R h q⟩⟩
  | _ => cases hx
theorem opn_list {x : D} {ds : List D} (hx : x.seq = some ds) (q : Q (.lst ds) ρ) : OpN K (rLstOf K) [x] ρ Q := fun F G H σ R vs hv Q' k => by
  obtain ⟨v, rfl, h⟩ := hv.one
  cases x with
  | lst xs =>
    cases hx
    obtain ⟨a, ws, rfl, h1, h2⟩ := rep_lst h
    refine ⟨a, ws, rfl, .inl (.inl (.inl (R.wd.g _ _ h1))), fun p hp => ?_⟩
    obtain ⟨z1, z2, z3, z4, z5⟩ := en_of R hp h2
    exact k p _ ρ G _ (Ex.refl G) z1 z2 z3 z4 z5 q
  | tup xs =>
    cases hx
    obtain ⟨a, ws, rfl, h1, h2⟩ := rep_tup h
    refine ⟨a, ws, rfl, .inr (R.wd.g.sqT h1), fun p hp => ?_⟩
    obtain ⟨z1, z2, z3, z4, z5⟩ := en_of R hp h2
    exact k p _ ρ G _ (Ex.refl G) z1 z2 z3 z4 z5 q
  | _ => cases hx
/-- sorted(d), d with texts for keys -/
def rSortD : List V → Hp → VK → Prop := fun xs H Q => ∃ (a : Addr) (kvs : List (Key × V)) (ks : List Str), xs = [.ref a] ∧ Rd H a (.dK kvs) ∧ kvs.map (·.1) = ks.map Sum.inr ∧ ks.length < 64 ∧
    ∀ ys p, ys.Perm ks → sortedS ys = true → H p = none → Q (.ref p) (upd H p (.lst (ys.map V.str)))
theorem csortD {X : Cx} (hc : X.calm = true) : CallR X (.builtin "sorted") rSortD := call_sortedD hc
theorem reps_of_strs {H : Hp} : ∀ xs : List Str, Reps K H (xs.map V.str) (strsD xs)
  | [] => .nil
  | x :: xs => .cons (.str x) (reps_of_strs xs)
theorem opn_sortD {ps : List (Key × D)} {ks : List Str} (hk : ps.map (·.1) = ks.map Sum.inr) (hl : ks.length < 64) (q : ∀ ys : List Str, ys.Perm ks → sortedS ys = true → Q (.lst (strsD ys)) ρ) : OpN K rSortD [.dk ps] ρ Q := fun F G H σ R vs hv Q' k => by
  obtain ⟨v, rfl, h⟩ := hv.one
  obtain ⟨a, kvs, rfl, h1, h2, h3⟩ := rep_dk h
  refine ⟨a, kvs, ks, rfl, R.wd.g.rdx.1 _ _ trivial h1, h2.trans hk, hl, fun ys p hp hs hn => ?_⟩
  obtain ⟨z1, z2, z3, z4, z5⟩ := en_of R hn (reps_of_strs (K := K) (H := G) ys)
  exact k p _ ρ G _ (Ex.refl G) z1 z2 z3 z4 z5 (q ys hp hs)
/-- int(n) -/
theorem opa_int {i : Int} (q : Q (.int i) ρ) : OpA K (fun xs H Q => (∃ i, xs = [.int i] ∧ Q (.int i) H) ∨ ∃ k, xs = [.bl k] ∧ Q (.int (if k then 1 else 0)) H) [.int i] ρ Q := fun F G H σ R vs hv Q' k => by
  obtain ⟨v, rfl, h⟩ := hv.one
  rw [rep_int h]
  exact .inl ⟨i, rfl, k _ _ ρ G H (Ex.refl G) R (.int i) q⟩
theorem opa_min {i j : Int} (q : Q (.int (if j < i then j else i)) ρ) : OpA K (fun xs H Q => ∃ i j, xs = [.int i, .int j] ∧ Q (.int (if j < i then j else i)) H) [.int i, .int j] ρ Q := fun F G H σ R vs hv Q' k => by
  obtain ⟨v, w, rfl, h1, h2⟩ := hv.two
  rw [rep_int h1, rep_int h2]
  exact ⟨i, j, rfl, k _ _ ρ G H (Ex.refl G) R (.int _) q⟩
/-! ### the script -/
theorem rep_scr {H : Hp} {v : V} {ns : List Int} (h : Rep K H v (.scr ns)) : ∃ a, v = .ref a ∧ SqL K H a (ns.map V.int) := by
  cases h with | scr a => exact ⟨_, rfl, a⟩
theorem Ex.sqL {H H' : Hp} {a : Addr} {xs : List V} (e : Ex H H') (h : SqL K H a xs) : SqL K H' a xs := e.rdx.sqL h
theorem opa_len_scr {ns : List Int} (q : Q (.int ns.length) ρ) : OpA K (rLenU K) [.scr ns] ρ Q := fun F G H σ R vs hv Q' k => by
  obtain ⟨v, rfl, h⟩ := hv.one
  obtain ⟨a, rfl, h1⟩ := rep_scr h
  refine .inl (.inl ⟨a, _, rfl, .inl (R.wd.g.sqL h1), ?_⟩)
  rw [List.length_map]
  exact k _ _ ρ G H (Ex.refl G) R (.int _) q
theorem op2_ix_scr {ns : List Int} {j : Nat} {n : Int} (h : ns[j]? = some n) (q : Q (.int n) ρ) : Op2 K (rIx K) (.scr ns) (.int (j : Nat)) ρ Q := fun F G H σ R v w hv hw Q' k => by
  obtain ⟨a, rfl, h1⟩ := rep_scr hv
  exact .inl ⟨a, _, j, .int n, rfl, rep_int hw, R.wd.g.sqL h1, atI_nat (by rw [List.getElem?_map, h]; rfl), k _ _ ρ G H (Ex.refl G) R (.int n) q⟩
/-! ### two new objects at once -/
theorem RE.unfrm' {F G H : Hp} {σ : L2.St} {ρ : Env} {p : Addr} {o : HO} (R : RE K (upd F p o) G H σ ρ) (hF : F p = none) : p ∉ ownA ρ := fun m => by
  have z := (R.sl.own m).2.1
  rw [upd_same] at z; cases z
/-- a, b = new, new -/
theorem ws_parNN {i j : Nat} (hij : i ≠ j) (h : EvN K ta ρ fun d ρ1 => EvN K tb ρ1 fun e ρ2 => ∀ p q, E.nx ((ρ2.set i (.own p d)).set j (.own q e))) : WS K (tPar i j (tCons ta (tCons tb tNil))) ρ E := fun F G H σ Dn R L =>
  h F G H σ R _ fun p d ρ1 G1 H1 e1 R1 hG hF hO o q => by
    obtain ⟨u, hu, _⟩ := o.some
    refine q (upd F p u) G1 H1 σ (R1.frm hu hG hO) _ fun p2 e ρ2 G2 H2 e2 R2 hG2 hF2 hO2 o2 q2 => ?_
    obtain ⟨R3, h3, g3⟩ := R2.unfrm hF
    have np : p ∉ ownA ρ2 := R2.unfrm' hF
    have nq : p2 ≠ p := fun z => by rw [z, upd_same] at hF2; cases hF2
    have hF2' : F p2 = none := by rw [upd_ne nq] at hF2; exact hF2
    have o1 : OwnR K G2 (H2 p) d := by rw [h3, ← hu]; exact o.mono e2
    have R4 := R3.setOwn g3 hF np o1 i
    refine ⟨.ref p, .ref p2, rfl, L.nx _ _ G2 H2 (e1.trans e2) (R4.setOwn hG2 hF2' (fun m => ?_) o2 j) (q2 p p2)⟩
    rcases (ownA_set_own (r := .own p d) i R3.nd (show [p].Nodup from List.nodup_cons.mpr ⟨List.not_mem_nil, List.nodup_nil⟩) (fun a m => by rw [List.mem_singleton.mp m]; exact np)).2 p2 m with z | z
    · exact nq (List.mem_singleton.mp z)
    · exact hO2 z
/-- an own thing read: from now on it is shared -/
theorem ew_give {i : Nat} {a : Addr} {d : D} (hi : ρ[i]? = some (.own a d)) (q : Q d (ρ.set i (.sh d))) : EvW K (tVar i) ρ Q := fun F G H σ R Q' k => by
  obtain ⟨o, hσ, _, hG, R', rp⟩ := R.give hi
  exact ⟨.ref a, hσ, k _ d _ _ H (Ex.new hG) R' rp q⟩
/-! ### == and != of data at any depth -/
mutual
def toPy : D → Option PyData
  | .non => some .none
  | .bl b => some (.bool b)
  | .int i => some (.int i)
  | .str x => some (.str x)
  | .lst xs => (toPys xs).map PyData.list
  | .tup xs => (toPys xs).map PyData.tuple
  | .dk _ => none
  | .dt _ => none
  | .ins _ _ => none
  | .scr _ => none
def toPys : List D → Option (List PyData)
  | [] => some []
  | x :: xs => match toPy x, toPys xs with
    | some p, some ps => some (p :: ps)
    | _, _ => none
end
mutual
theorem rep_dp {H : Hp} : ∀ {v : V} {d : D} {p : PyData}, Rep K H v d → toPy d = some p → Dp K H v p
  | _, _, _, .non, e => by unfold toPy at e; cases e; exact .non
  | _, _, _, .bl b, e => by unfold toPy at e; cases e; exact .bl b
  | _, _, _, .int b, e => by unfold toPy at e; cases e; exact .int b
  | _, _, _, .str b, e => by unfold toPy at e; cases e; exact .str b
  | _, _, _, .lst h r, e => by
    unfold toPy at e
    obtain ⟨ps, h1, rfl⟩ := Option.map_eq_some_iff.mp e
    exact .lst (.inl (.inl h)) (reps_dp r h1)
  | _, _, _, .tup h r, e => by
    unfold toPy at e
    obtain ⟨ps, h1, rfl⟩ := Option.map_eq_some_iff.mp e
    exact .tup h (reps_dp r h1)
  | _, _, _, .dk _ _ _, e => by unfold toPy at e; cases e
  | _, _, _, .dt _ _ _, e => by unfold toPy at e; cases e
  | _, _, _, .ins _ _ _, e => by unfold toPy at e; cases e
  | _, _, _, .scr _, e => by unfold toPy at e; cases e
theorem reps_dp {H : Hp} : ∀ {vs : List V} {ds : List D} {ps : List PyData}, Reps K H vs ds → toPys ds = some ps → DpAll K H vs ps
  | _, _, _, .nil, e => by unfold toPys at e; cases e; exact .nil
  | _, _, _, .cons (d := d) (ds := ds) h r, e => by
    unfold toPys at e
    cases e1 : toPy d with
    | none => rw [e1] at e; simp at e
    | some p =>
      cases e2 : toPys ds with
      | none => rw [e1, e2] at e; simp at e
      | some ps =>
        rw [e1, e2] at e
        cases e
        exact .cons (rep_dp h e1) (reps_dp r e2)
end
theorem op2_eqD {x y : D} {p q : PyData} (hx : toPy x = some p) (hy : toPy y = some q) (sx : SeqAt.shaped p = true) (sy : SeqAt.shaped q = true) (h : Q (.bl (PyData.eqv p q)) ρ) : Op2 K (rEqD K) x y ρ Q := fun F G H σ R v w hv hw Q' k =>
  ⟨p, q, rep_dp (hv.mono R.wd.g) hx, rep_dp (hw.mono R.wd.g) hy, sx, sy, k _ _ ρ G H (Ex.refl G) R (.bl _) h⟩
theorem op2_neD {x y : D} {p q : PyData} (hx : toPy x = some p) (hy : toPy y = some q) (sx : SeqAt.shaped p = true) (sy : SeqAt.shaped q = true) (h : Q (.bl (!PyData.eqv p q)) ρ) : Op2 K (rNeD K) x y ρ Q := fun F G H σ R v w hv hw Q' k =>
  ⟨p, q, rep_dp (hv.mono R.wd.g) hx, rep_dp (hw.mono R.wd.g) hy, sx, sy, k _ _ ρ G H (Ex.refl G) R (.bl _) h⟩
theorem toPys_strs : ∀ xs : List Str, toPys (strsD xs) = some (xs.map PyData.str)
  | [] => by unfold strsD; rw [List.map_nil, toPys]; rfl
  | x :: xs => by
    have ih := toPys_strs xs
    unfold strsD at ih ⊢
    rw [List.map_cons, toPys, toPy, ih]
    rfl
theorem shaped_strs {xs : List Str} (h : ∀ x ∈ xs, PyData.strOk x = true) : SeqAt.shaped (.list (xs.map PyData.str)) = true := by
  have key : ∀ xs : List Str, (∀ x ∈ xs, PyData.strOk x = true) → PyData.canLayAll0 (xs.map PyData.str) = true ∧ PyData.depthAll (xs.map PyData.str) = 0 := by
    intro xs
    induction xs with
    | nil => intro _; exact ⟨by simp [PyData.canLayAll0], by simp [PyData.depthAll]⟩
    | cons x xs ih =>
      intro h
      obtain ⟨i1, i2⟩ := ih fun y hy => h y (List.mem_cons_of_mem _ hy)
      refine ⟨?_, ?_⟩
      · rw [List.map_cons, PyData.canLayAll0, PyData.canLay0, h x List.mem_cons_self, i1]; rfl
      · rw [List.map_cons, PyData.depthAll, PyData.depth, i2]; rfl
  obtain ⟨k1, k2⟩ := key xs h
  unfold SeqAt.shaped
  rw [PyData.canLay0, k1, PyData.depth, k2]
  rfl
/-- xs != [] of texts -/
theorem op2_ne_nil {xs : List Str} (hs : ∀ x ∈ xs, PyData.strOk x = true) (h : Q (.bl (!xs.isEmpty)) ρ) : Op2 K (rNeD K) (.lst (strsD xs)) (.lst []) ρ Q := by
  refine op2_neD (p := .list (xs.map PyData.str)) (q := .list []) (by rw [toPy, toPys_strs]; rfl) (by rw [toPy, toPys]; rfl) (shaped_strs hs) (by decide +kernel) ?_
  have e : PyData.eqv (.list (xs.map PyData.str)) (.list []) = xs.isEmpty := by
    cases xs with
    | nil => simp [PyData.eqv, PyData.eqvAll]
    | cons x xs => simp [PyData.eqv, PyData.eqvAll]
  rw [e]; exact h
end
end DL

set_option Elab.async false
set_option linter.all false
set_option maxRecDepth 100000
namespace DL
open PySem PySem.Spec PyProof.Rows L2
section
variable {K : PySem.W.Frag} {te ta tb tc td ty tv : TE} {tt tu : TT} {ts : TA} {ρ : Env} {Q : D → Env → Prop} {E : EndD}
theorem notin_un {r : Sl} {i : Nat} {a : Addr} (nd : (ownA ρ).Nodup) (hi : ρ[i]? = some r) (m : a ∈ r.adr) : a ∉ ownA (ρ.set i .un) := fun z => by
  obtain ⟨r', hr, m'⟩ := List.mem_flatMap.mp z
  obtain ⟨j, hj⟩ := List.mem_iff_getElem?.mp hr
  by_cases e : j = i
  · subst e
    obtain ⟨hl, _⟩ := List.getElem?_eq_some_iff.mp hi
    rw [List.getElem?_set_self hl] at hj
    cases hj
    cases m'
  · rw [List.getElem?_set_ne (Ne.symm e)] at hj
    exact nodup_apart nd hi hj (Ne.symm e) m m'
theorem RE.forget {F G H : Hp} {σ : L2.St} {r : Sl} {i : Nat} {s : Option V} (R : RE K F G H σ ρ) (hi : ρ[i]? = some r) (hσ : σ[i]? = some s) : RE K F G H σ (ρ.set i .un) :=
  ⟨R.wd, R.sl.but hσ (r' := .un) trivial fun j s r n h1 h2 q => q, List.Nodup.sublist (ownA_setr (r' := .un) (List.nil_sublist _) hi) R.nd⟩
theorem RE.setAny {F G H : Hp} {σ : L2.St} {ρ : Env} {s : Option V} {r : Sl} (R : RE K F G H σ ρ) (hs : SlotOk K F G H s r) (h1 : r.adr.Nodup) (h2 : ∀ a ∈ r.adr, a ∉ ownA ρ) (i : Nat) : RE K F G H (σ.set i s) (ρ.set i r) :=
  ⟨R.wd, R.sl.set hs i, (ownA_set_own i R.nd h1 h2).1⟩
theorem two_nd {i : Nat} {k m : Addr} {xs ys : List Str} (nd : (ownA ρ).Nodup) (hi : ρ[i]? = some (.two k m xs ys)) : k ≠ m := by
  have key : ∀ {ρ : Env} {i : Nat} {r : Sl}, (ownA ρ).Nodup → ρ[i]? = some r → r.adr.Nodup := by
    intro ρ
    induction ρ with
    | nil => intro i r _ h; simp at h
    | cons r0 ρ ih =>
      intro i r nd h
      rw [ownA_cons] at nd
      obtain ⟨n1, n2, _⟩ := List.nodup_append.mp nd
      cases i with
      | zero => simp at h; subst h; exact n1
      | succ i => exact ih n2 (by simpa using h)
  have := key nd hi
  intro e
  have z : ([k, m] : List Addr).Nodup := this
  rw [e] at z
  simp at z
/-- known, more = names -/
theorem ws_unpack2 {i p q : Nat} {k m : Addr} {xs ys : List Str} (hi : ρ[i]? = some (.two k m xs ys)) (h : E.nx (((ρ.set i .un).set p (.own k (.lst (strsD xs)))).set q (.own m (.lst (strsD ys))))) :
    WS K (tAsg (tVar i) (gTup K 2 (gCons (gName p) (gCons (gName q) gNil)))) ρ E := fun F G H σ Dn R L => by
  obtain ⟨s, hs, ⟨t, rfl, ht⟩, hGk, hFk, hGm, hFm, hk, hm⟩ := R.sl.get hi
  have km := two_nd R.nd hi
  have R1 := R.forget hi hs
  have nk := notin_un R.nd hi (a := k) List.mem_cons_self
  have nm := notin_un R.nd hi (a := m) (List.mem_cons_of_mem _ (List.mem_singleton.mpr rfl))
  have R2 := R1.setOwn hGk hFk nk (d := .lst (strsD xs)) ⟨_, hk, reps_of_strs xs⟩ p
  have R3 := R2.setOwn hGm hFm (fun z => ?_) (d := .lst (strsD ys)) ⟨_, hm, reps_of_strs ys⟩ q
  · exact ⟨.ref t, hs, t, _, rfl, .inl (.inl (R.wd.g _ _ ht)), rfl, _, _, rfl, _, _, rfl, rfl, L.nx _ _ G H (Ex.refl G) R3 h⟩
  · rcases (ownA_set_own (r := .own k (.lst (strsD xs))) p R1.nd (show [k].Nodup from List.nodup_cons.mpr ⟨List.not_mem_nil, List.nodup_nil⟩) (fun a m => by rw [List.mem_singleton.mp m]; exact nk)).2 m z with z | z
    · exact km (List.mem_singleton.mp z).symm
    · exact nm z
/-- a def of the draws, data, a pair of lists, data -/
def spE (K : PySem.W.Frag) (J : List Str → List Str → Prop) (T : List D → (D → Prop) → Prop) : Sp := fun vs H Q _ => ∃ a t k m vr vb xs ys F G dr db Qd, vs = [.ref a, vr, .ref t, vb] ∧ Wd F G H ∧ (G a = none ∧ F a = none ∧ DrwR (H a)) ∧ Rep K G vr dr ∧ Rep K G vb db ∧
  (G t = some (.tup [.ref k, .ref m]) ∧ G k = none ∧ F k = none ∧ G m = none ∧ F m = none ∧ H k = some (.lst (xs.map V.str)) ∧ H m = some (.lst (ys.map V.str))) ∧ (k ≠ m ∧ a ≠ k ∧ a ≠ m) ∧ J xs ys ∧ T [dr, db] Qd ∧
  ∀ v d G' H' xs' ys', Ex G G' → Wd F G' H' → G' a = none → DrwR (H' a) → (G' k = none ∧ G' m = none ∧ H' k = some (.lst (xs'.map V.str)) ∧ H' m = some (.lst (ys'.map V.str))) → J xs' ys' → Rep K G' v d → Qd d → Q v H'
theorem ew_callE {J : List Str → List Str → Prop} {T : List D → (D → Prop) → Prop} {E : XK} {i0 i1 i2 i3 : Nat} {a k m : Addr} {xs ys : List Str} {dr db : D} (h0 : ρ[i0]? = some (.drw a)) (h1 : ρ[i1]? = some (.sh dr)) (h2 : ρ[i2]? = some (.two k m xs ys)) (h3 : ρ[i3]? = some (.sh db))
    (hj : J xs ys) (ht : T [dr, db] fun d => ∀ xs' ys', J xs' ys' → Q d (ρ.set i2 (.two k m xs' ys'))) : EvW K (tCall (spE K J T) [] E (tCons (tVar i0) (tCons (tVar i1) (tCons (tVar i2) (tCons (tVar i3) tNil))))) ρ Q := fun F G H σ R Q' kk => by
  obtain ⟨s0, e0, rfl, ga, fa, da⟩ := R.sl.get h0
  obtain ⟨s1, e1, v1, rfl, r1⟩ := R.sl.get h1
  obtain ⟨s2, e2, ⟨t, rfl, gt⟩, gk, fk, gm, fm, hk, hm⟩ := R.sl.get h2
  obtain ⟨s3, e3, v3, rfl, r3⟩ := R.sl.get h3
  refine ⟨.ref a, e0, v1, e1, .ref t, e2, v3, e3, ?_⟩
  have i02 : i0 ≠ i2 := fun z => by subst z; rw [h0] at h2; cases h2
  have ak : a ≠ k := fun z => nodup_apart R.nd h0 h2 i02 (List.mem_singleton.mpr rfl) (z ▸ List.mem_cons_self)
  have am : a ≠ m := fun z => nodup_apart R.nd h0 h2 i02 (List.mem_singleton.mpr rfl) (z ▸ List.mem_cons_of_mem _ (List.mem_singleton.mpr rfl))
  let as := (ownA ρ).filter fun b => decide (b ≠ a ∧ b ≠ k ∧ b ≠ m)
  have sub : ∀ b ∈ as, b ∈ ownA ρ := fun b z => (List.mem_filter.mp z).1
  have out : ∀ {b}, b ∈ as → b ≠ a ∧ b ≠ k ∧ b ≠ m := fun z => of_decide_eq_true (List.mem_filter.mp z).2
  have na : a ∉ as := fun z => (out z).1 rfl
  have nk : k ∉ as := fun z => (out z).2.1 rfl
  have nm : m ∉ as := fun z => (out z).2.2 rfl
  refine ⟨a, t, k, m, v1, v3, xs, ys, addF F H as, G, dr, db, _, rfl, R.wdF sub, ⟨ga, by rw [addF_out na]; exact fa, da⟩, r1, r3, ⟨gt, gk, by rw [addF_out nk]; exact fk, gm, by rw [addF_out nm]; exact fm, hk, hm⟩, ⟨two_nd R.nd h2, ak, am⟩, hj, ht, ?_⟩
  rintro v d G' H' xs' ys' e W gn dn ⟨g1, g2, g3, g4⟩ hj' hd qd
  have hsl := R.sl.but e2 (show SlotOk K F G' H' (some (.ref t)) (.two k m xs' ys') from ⟨⟨t, rfl, e _ _ gt⟩, g1, fk, g2, fm, g3, g4⟩) (fun j s r2 n z1 z2 z => ?_)
  · refine kk v d _ G' H' e ⟨R.wdB sub W, hsl, ?_⟩ hd (qd xs' ys' hj')
    exact List.Nodup.sublist (ownA_setr (r := .two k m xs ys) (r' := .two k m xs' ys') (show [k, m].Sublist [k, m] from List.Sublist.refl _) h2) R.nd
  · by_cases ej : j = i0
    · subst ej
      rw [h0] at z2; cases z2
      rw [e0] at z1; cases z1
      exact ⟨rfl, gn, fa, dn⟩
    · refine z.step e fun b mb => R.keepF W (List.mem_filter.mpr ⟨adr_mem z2 mb, ?_⟩) (adr_mem z2 mb)
      have c1 : b ≠ a := fun y => nodup_apart R.nd h0 z2 (Ne.symm ej) (List.mem_singleton.mpr rfl) (y ▸ mb)
      have c2 : b ≠ k := fun y => nodup_apart R.nd h2 z2 (Ne.symm n) (a := k) List.mem_cons_self (y ▸ mb)
      have c3 : b ≠ m := fun y => nodup_apart R.nd h2 z2 (Ne.symm n) (a := m) (List.mem_cons_of_mem _ (List.mem_singleton.mpr rfl)) (y ▸ mb)
      exact decide_eq_true ⟨c1, c2, c3⟩
theorem fn_E {P : Program} {w : World} {mg : Str → Option Value} {base : Heap} {x qual : Str} {params : Arguments} {body : List Stmt} {scope : Scope} {fd : FuncData} {N ps : List Str} {k n : Nat} {i j : Nat} {J : List Str → List Str → Prop} {T : List D → (D → Prop) → Prop}
    (F : FunD K x qual params body scope [] [] (He.ga K x) fd) (at_ : mg x = some (.ref (He.ga K x)))
    (bi : ∀ (kV doc pm : Value) (an : Option Addr) (cdv ct : Value) (us : List Value), us.length = ps.length → bindArgs (PySem.W.fnOf x qual params body scope .none kV doc pm an cdv ct) ⟨us, []⟩ = pure (ps.zip us))
    (S : FnScope N ps scope) (hN : N.length = n + 4) (hl : ps.length = 4)
    (hb : ∀ (cdv : Value) (A : Around) (outer : List PySem.Env) (s : Shared) (H : Hp) (E : XK), Room k (A.deeper (envOfC qual scope s.heap.objs.size (He.ga K x) cdv)) →
      ∃ t, PSs (cxOf CX0 P w K mg base N qual scope (He.ga K x) cdv A outer s H E).nox body t ∧ ∀ a p m xs ys dr db Qd, J xs ys → T [dr, db] Qd → WS K t (.drw a :: .sh dr :: .two p m xs ys :: .sh db :: List.replicate n .un) { nx := fun ρ => False, rt := fun d ρ => ρ[0]? = some (.drw a) ∧ (∃ xs' ys', J xs' ys' ∧ ρ[i]? = some (.own p (.lst (strsD xs'))) ∧ ρ[j]? = some (.own m (.lst (strsD ys')))) ∧ Qd d }) :
    FnB P w K mg base (k + 1) x ps (spE K J T) := by
  refine ⟨⟨fd, F.ok S (fun vs H Q E h => ?_) (fun cdv A outer s H vs Q E hr h => ?_), F.bindsN bi⟩, F.kp, at_⟩
  · obtain ⟨a, t, p, m, vr, vb, xs, ys, _, _, dr, db, Qd, rfl, _⟩ := h
    rw [hl]; rfl
  · obtain ⟨a, t0, p, m, vr, vb, xs, ys, F', G, dr, db, Qd, rfl, W, ⟨hG, hF, hD⟩, rr, rb, ⟨gt, gk, fk, gm, fm, hk, hm⟩, ⟨km, ak, am⟩, hj, tt, post⟩ := h
    obtain ⟨t, hd, hw⟩ := hb cdv A outer s H E hr
    refine ⟨t, PSs.nox hd, ?_⟩
    have es : L2.start N [.ref a, vr, .ref t0, vb] = some (.ref a) :: some vr :: some (.ref t0) :: some vb :: List.replicate n none := by
      unfold L2.start
      simp only [List.map_cons, List.map_nil, List.cons_append, List.nil_append, List.length_cons, List.length_nil]
      rw [hN]
      rfl
    have hrep : ∀ n : Nat, Slots K F' G H (List.replicate n none) (List.replicate n Sl.un) := by
      intro n
      induction n with
      | zero => exact trivial
      | succ n ih => exact ⟨trivial, ih⟩
    have R : RE K F' G H (L2.start N [.ref a, vr, .ref t0, vb]) (.drw a :: .sh dr :: .two p m xs ys :: .sh db :: List.replicate n .un) := by
      rw [es]
      refine ⟨W, ⟨⟨rfl, hG, hF, hD⟩, ⟨vr, rfl, rr⟩, ⟨⟨t0, rfl, gt⟩, gk, fk, gm, fm, hk, hm⟩, ⟨vb, rfl, rb⟩, hrep n⟩, ?_⟩
      show (a :: p :: m :: ownA (List.replicate n Sl.un)).Nodup
      rw [ownA_un]
      simp [ak, am, km]
    refine hw a p m xs ys dr db Qd hj tt F' G H _ _ R ⟨fun σ' ρ' G' H' e R' q => q.elim, fun v d σ' ρ' G' H' e R' hv q => ?_, fun σ' ρ' G' H' e R' q => q.elim, fun σ' ρ' G' H' e R' q => q.elim, fun p d σ' ρ' G' H' e R' _ _ _ _ q => q.elim⟩
    obtain ⟨h0, ⟨xs', ys', hj', hi, hj2⟩, qd⟩ := q
    obtain ⟨_, _, _, z1, _, z2⟩ := R'.sl.get h0
    obtain ⟨_, _, _, y1, _, vs1, y2, y3⟩ := R'.sl.get hi
    obtain ⟨_, _, _, x1, _, vs2, x2, x3⟩ := R'.sl.get hj2
    rw [reps_strs y3] at y2
    rw [reps_strs x3] at x2
    exact post v d G' H' xs' ys' e R'.wd z1 z2 ⟨y1, x1, y2, x2⟩ hj' hv qd
/-- names, time, found = ([], [..]), n, {} -/
theorem ws_par3E {i j l : Nat} {n : Int} (hij : i ≠ j) (hil : i ≠ l) (hjl : j ≠ l) (h : EvN K tb ρ fun d ρ1 => ∃ ys, d = .lst (strsD ys) ∧ ∀ k m p, E.nx (((ρ1.set i (.two k m [] ys)).set j (.sh (.int n))).set l (.own p (.dk [])))) :
    WS K (tPar3 i j l (tCons (tTup (tCons (tLst tNil) (tCons tb tNil))) (tCons (tC (.int n)) (tCons tDNewK tNil)))) ρ E := fun F G H σ Dn R L => by
  refine ⟨by show 0 ≤ sizeLine; decide, fun k hk => ?_⟩
  have hFk : F k = none := R.wd.f.none hk
  have R1 : RE K (upd F k (.lst [])) G (upd H k (.lst [])) σ ρ := (R.alone hk).frm upd_same (R.wd.g.none hk) (ownA_fresh R hk)
  refine h _ G _ σ R1 _ fun m d ρ1 G2 H2 e2 R2 hGm hFm hOm o q => ?_
  obtain ⟨ys, rfl, q⟩ := q
  obtain ⟨R3, h3, g3⟩ := R2.unfrm hFk
  have nk : k ∉ ownA ρ1 := R2.unfrm' hFk
  have mk : m ≠ k := fun z => by rw [z, upd_same] at hFm; cases hFm
  have hFm' : F m = none := by rw [upd_ne mk] at hFm; exact hFm
  obtain ⟨vs, hm, hr⟩ := o
  have hvs := reps_strs hr
  subst hvs
  refine ⟨by show 2 ≤ sizeLine; decide, fun t ht => ?_⟩
  have R4 := R3.new (o := .tup [.ref k, .ref m]) ht
  have kt : k ≠ t := ne_of_none h3 ht
  have mt : m ≠ t := ne_of_none hm ht
  refine fun p hp => ?_
  have R5 := R4.alone (o := .dK []) hp
  have kp : k ≠ p := ne_of_none (show upd H2 t (.tup [.ref k, .ref m]) k = _ by rw [upd_ne kt]; exact h3) hp
  have mp : m ≠ p := ne_of_none (show upd H2 t (.tup [.ref k, .ref m]) m = _ by rw [upd_ne mt]; exact hm) hp
  have R6 := R5.setAny (s := some (.ref t)) (r := .two k m [] ys) ⟨⟨t, rfl, upd_same⟩, by rw [upd_ne kt]; exact g3, hFk, by rw [upd_ne mt]; exact hGm, hFm', by rw [upd_ne kp, upd_ne kt]; exact h3, by rw [upd_ne mp, upd_ne mt]; exact hm⟩
    (show [k, m].Nodup by simp [Ne.symm mk]) (fun a z => by
      rcases List.mem_cons.mp z with z | z
      · rw [z]; exact nk
      · rw [List.mem_singleton.mp z]; exact hOm) i
  have R7 := R6.setSh (v := .int n) (d := .int n) (.int n) j
  have hGp := R4.wd.g.none hp
  have hFp := R4.wd.f.none hp
  have R8 := R7.setOwn hGp hFp (fun z => ?_) (d := .dk []) ⟨[], upd_same, rfl, .nil⟩ l
  · exact ⟨_, _, _, rfl, L.nx _ _ _ _ (e2.trans (Ex.new (R3.wd.g.none ht))) R8 (q k m p)⟩
  · have z1 := (ownA_set0 (r := .sh (.int n)) rfl j).subset z
    rcases (ownA_set_own (r := .two k m [] ys) i R5.nd (show [k, m].Nodup by simp [Ne.symm mk]) (fun a z => by
      rcases List.mem_cons.mp z with z | z
      · rw [z]; exact nk
      · rw [List.mem_singleton.mp z]; exact hOm)).2 p z1 with z2 | z2
    · rcases List.mem_cons.mp z2 with z | z
      · exact kp z.symm
      · exact mp (List.mem_singleton.mp z).symm
    · exact ownA_fresh R4 hp z2
/-- own + new -/
theorem en_catO {i : Nat} {a : Addr} {xs : List D} (hi : ρ[i]? = some (.own a (.lst xs))) (h : EvW K tb ρ fun y ρ2 => ∃ ys, y = .lst ys ∧ ρ2[i]? = some (.own a (.lst xs)) ∧ xs.length + ys.length ≤ 90000 ∧ Q (.lst (xs ++ ys)) ρ2) : EvN K (tOp rCat (tVar i) tb) ρ Q := fun F G H σ R Q' k => by
  obtain ⟨s, hs, rfl, _⟩ := R.sl.get hi
  refine ⟨.ref a, hs, h F G H σ R _ fun w y ρ2 G2 H2 e2 R2 hw q2 => ?_⟩
  obtain ⟨ys, rfl, hi2, hl, q⟩ := q2
  obtain ⟨_, _, _, _, _, vs, h1, h2⟩ := R2.sl.get hi2
  obtain ⟨b, ws, rfl, h3, h4⟩ := rep_lst hw
  refine ⟨a, b, vs, ws, rfl, rfl, h1, R2.wd.g _ _ h3, by rw [h2.length, h4.length]; exact big (by omega), fun p hp => ?_⟩
  obtain ⟨z1, z2, z3, z4, z5⟩ := en_of R2 hp (h2.append h4)
  exact k p _ ρ2 G2 _ e2 z1 z2 z3 z4 z5 q
/-- a new list of three ints is the draws -/
theorem ws_asgD {i : Nat} (h : EvN K te ρ fun d ρ1 => ∃ x y z : Int, d = .lst [.int x, .int y, .int z] ∧ ∀ p, E.nx (ρ1.set i (.drw p))) : WS K (tAsg te (gName i)) ρ E := fun F G H σ Dn R L =>
  h F G H σ R _ fun p d ρ1 G1 H1 e1 R1 hG hF hO o q => by
    obtain ⟨x, y, z, rfl, q⟩ := q
    obtain ⟨vs, h1, h2⟩ := o
    obtain ⟨v1, ws, rfl, a1, b1⟩ := h2.cons_inv
    obtain ⟨v2, v3, rfl, a2, a3⟩ := b1.two
    rw [rep_int a1, rep_int a2, rep_int a3] at h1
    exact L.nx _ _ G1 H1 e1 (R1.setAny (s := some (.ref p)) (r := .drw p) ⟨rfl, hG, hF, x, y, z, h1⟩ (List.nodup_cons.mpr ⟨List.not_mem_nil, List.nodup_nil⟩) (fun a m => by rw [List.mem_singleton.mp m]; exact hO) i) (q p)
end
end DL

set_option Elab.async false
set_option linter.all false
set_option maxRecDepth 100000
namespace DL
open PySem PySem.Spec PyProof.Rows L2
theorem kv_vals {κ : Type} {kvs : List (κ × V)} {vs : List (κ × Value)} (r : KV kvs vs) : Vals (kvs.map (·.2)) (vs.map (·.2)) := by
  unfold KV at r
  induction r with
  | nil => exact .nil
  | cons h t ih => exact .cons h.2 ih
section
variable {X : Cx} {o : Expr} {p pos apos mpos : Pos} {td : TE}
/-- list(o.values()) -/
def tListVals (td : TE) : TE := fun σ H Q => td σ H fun x H1 => ∃ (a : Addr) (kvs : List (Key × V)), x = V.ref a ∧ Rd H1 a (.dK kvs) ∧ ∀ p, H1 p = none → Q (.ref p) (upd H1 p (.lst (kvs.map (·.2))))
theorem pe_listVals (hc : X.calm = true) (hg : Gl X "list") (hm : X.mg "list" = none) (hd : PE X o td) (hbase : attributeBase o "values" X.env (eval o X.env) = eval o X.env := by rfl) (hline : (apos.endLine == mpos.line) = true := by rfl)
    (hse : starEach [Expr.Call (.Attribute o "values" apos) [] [] mpos] X.env = [(false, eval (Expr.Call (.Attribute o "values" apos) [] [] mpos) X.env)] := by rfl) :
    PE X (.Call (.Name "list" p) [.Call (.Attribute o "values" apos) [] [] mpos] [] pos) (tListVals td) := by
  refine ⟨fun pins s σ H Q I h => ?_⟩
  refine wpAny_Call_Name_kw (ld_blt I hg hm (u := .type "list") (by first | rfl | decide +kernel) ?_ (by first | decide +kernel | decide) (by first | decide +kernel | decide))
  rw [hse]
  refine PySem.callWith_type1 (wpAny_Call_method0_late hbase hline (thn (hd.run pins s σ H _ I h) fun v s1 ⟨x, H1, I1, r1, a, kvs, ex, ha, q⟩ => ?_))
  subst ex
  obtain rfl : v = Value.ref a := r1
  obtain ⟨hsz, hsys, vs, rel, dof⟩ := dk_rd I1.hok ha
  obtain ⟨ep, dat⟩ := dof.dictAt
  have dat' := dat
  obtain ⟨ob, es, ho, ex, hdat, hko, hpr, hnd⟩ := dat'
  refine ⟨"dict", "dict.values", F.plainAttrs_dict, F.slot_dict_values, F.type_dict_values, ⟨ob, ho, ex.1⟩, fun b e => ?_, Calls.callWith_builtin rfl (PySem.evalArgs_none ?_)⟩
  · cases e
    exact ⟨ob, ho, ex.2.1⟩
  refine call_meetsIn F.slot_dict_values ⟨ob, ho, ex.1⟩ F.entry_dict_values (F.args_dict_values_1 _) (meets_dict_values (mixKind X.prog X.w) a hsys) ⟨⟨vs, dof⟩, ?_⟩
  have k1 : ∀ b u, s1.heap.get? b = some u → (s1.heap.push { cls := .type "dict_values", data := .fields #[.ref a] }).get? b = some u := fun b u e => Heap.get?_push_of_some _ e
  have dat1 : (s1.heap.push { cls := .type "dict_values", data := .fields #[.ref a] }).DictAt (mixKind X.prog X.w) a vs ep := dat.keep k1
  have I2 : Inv X pins σ H1 { s1 with heap := s1.heap.push { cls := .type "dict_values", data := .fields #[.ref a] } } := I1.kept (t' := s1.toks) k1
  have hl : kvs.length = vs.length := KV.length rel
  refine PySem.W.kdl_call (PySem.W.kdl_values (knd := mixKind X.prog X.w) (r := s1.heap.objs.size) (d := a) (kvs := vs) (ep := ep)) (I1.ok.hd hc) ⟨⟨_, Heap.get?_push_size _ rfl, rfl, rfl⟩, dat1⟩ (by rw [← hl]; exact hsz) fun h' tk acc c' hk hD hacc => ?_
  have ea : acc.toList = vs.map (·.2) := by
    apply List.ext_getElem?
    intro j
    rw [List.getElem?_map]
    cases hj : acc.toList[j]? with
    | none =>
      have h1 := List.getElem?_eq_none_iff.mp hj
      rw [Array.length_toList, hacc.1] at h1
      rw [List.getElem?_eq_none h1]; rfl
    | some v =>
      obtain ⟨k, hk⟩ := hacc.2 j v (by rw [← Array.getElem?_toList]; exact hj)
      rw [hk]; rfl
  have rv : Vals (kvs.map (·.2)) acc.toList := by rw [ea]; exact kv_vals rel
  refine ⟨.ref _, upd H1 _ (.lst (kvs.map (·.2))), I2.laid (t' := tk) hk (Nat.le_refl _) (show ObjOk X.prog X.w _ _ _ (.lst (kvs.map (·.2))) from ⟨by rw [List.length_map]; exact hsz, acc.toList, c', rv, by rw [Array.toArray_toList]; exact hD⟩), rfl, q _ (I2.hok.fresh (Nat.le_refl _))⟩
end
section
variable {K : PySem.W.Frag} {td : TE} {ρ : Env} {Q : D → Env → Prop}
theorem en_listVals (h : EvW K td ρ fun x ρ1 => ∃ ps, x = .dk ps ∧ Q (.lst (ps.map (·.2))) ρ1) : EvN K (tListVals td) ρ Q := fun F G H σ R Q' k =>
  h F G H σ R _ fun v x ρ1 G1 H1 e1 R1 hv q => by
    obtain ⟨ps, rfl, q⟩ := q
    obtain ⟨a, kvs, rfl, h1, h2, h3⟩ := rep_dk hv
    refine ⟨a, kvs, rfl, R1.wd.g.rdx.1 _ _ trivial h1, fun p hp => ?_⟩
    obtain ⟨z1, z2, z3, z4, z5⟩ := en_of R1 hp h3
    exact k p _ ρ1 G1 _ e1 z1 z2 z3 z4 z5 q
end
end DL

set_option Elab.async false
set_option linter.all false
set_option maxRecDepth 100000
namespace DL
open PySem PySem.Spec PyProof.Rows L2
/-! ### set(..) of texts, and how many they are -/
def stp (acc : List Str) (x : Str) : List Str := if acc.any (· == x) = true then acc else acc ++ [x]
def ded (xs : List Str) : List Str := xs.foldl stp []
theorem ded_snoc (xs : List Str) (x : Str) : ded (xs ++ [x]) = stp (ded xs) x := by
  unfold ded
  rw [List.foldl_append]; rfl
theorem stp_len (acc : List Str) (x : Str) : (stp acc x).length = if acc.any (· == x) = true then acc.length else acc.length + 1 := by
  unfold stp
  split <;> simp
theorem stp_any (acc : List Str) (x k : Str) : (stp acc x).any (· == k) = (acc.any (· == k) || decide (k = x)) := by
  unfold stp
  by_cases e : k = x
  · subst e
    split
    · rename_i h; rw [h]; simp
    · rw [List.any_append]; simp
  · have e' : ¬ x = k := fun z => e z.symm
    split
    · simp [e]
    · rw [List.any_append]; simp [e, e']
theorem ded_le : ∀ (xs : List Str) (i : Nat), (ded (xs.take i)).length ≤ i
  | _, 0 => by rw [List.take_zero]; exact Nat.le_refl _
  | xs, i + 1 => by
    have ih := ded_le xs i
    cases e : xs[i]? with
    | none =>
      rw [List.take_of_length_le (by have := List.getElem?_eq_none_iff.mp e; omega)]
      rw [List.take_of_length_le (List.getElem?_eq_none_iff.mp e)] at ih
      omega
    | some x =>
      rw [List.take_add_one, e]
      show (ded (xs.take i ++ [x])).length ≤ _
      rw [ded_snoc, stp_len]
      split <;> omega
section
variable {prog : Program} {w : World} {A : Around} {R : Result → Shared → Prop} {I : Addr} {fp wr : List Addr} {Gn : Array GenState → Array GenState → Prop} {n : Nat} {Pv : Nat → Value → Prop} {St : Nat → Shared → Prop}
theorem set_loop (W : WalksS prog w A.in1 I fp wr Gn n Pv St) (S : Addr) (hSf : S ∉ fp) (xs : List Str) (hsz : xs.length = n) (hn : n < 4000) (hval : ∀ (i : Nat) v, Pv i v → ∃ x t, xs[i]? = some x ∧ v = .str x t) :
    ∀ (m i : Nat) (s : Shared), m + i = n → St i s → s.heap.SetOf (PySem.strKind prog w) S (fun k => (ded (xs.take i)).any (· == k)) (ded (xs.take i)).length →
      (∀ s', Moved (S :: wr) Gn s s' → s'.heap.SetOf (PySem.strKind prog w) S (fun k => (ded xs).any (· == k)) (ded xs).length → R (.ok (.ret .none)) s') →
      codeAny (model prog w) A (.builtin "set.update.loop" ⟨[.ref S, .ref I], []⟩) R s := by
  have hSw : S ∉ wr := fun z => hSf (W.sub _ z)
  have sub : ∀ b ∈ wr, b ∈ S :: wr := fun b hb => List.mem_cons_of_mem _ hb
  intro m
  induction m with
  | zero =>
    intro i s hm hst hS hR
    have ei : i = n := by omega
    subst ei
    refine codeAny_builtin PyProof.Rows.F.entry_set_update_loop ?_
    rw [Around.under_plainId PyProof.Rows.F.plain_set_update_loop _]
    show wpAny _ A.in1 (pyNext (.ref I) >>= _) _ _ s
    refine wpAny_bind (W.done s _ _ hst fun s' mv => ?_)
    show wpAny _ A.in1 (ret Value.none) _ _ s'
    refine wpAny_pure (hR s' (mv.mono sub) ?_)
    rw [List.take_of_length_le (by omega)] at hS
    obtain ⟨o, es, ep, t, ho, rest⟩ := hS
    exact ⟨o, es, ep, t, mv.heap S _ hSw ho, rest⟩
  | succ m ih =>
    intro i s hm hst hS hR
    have lt : i < n := by omega
    refine codeAny_builtin PyProof.Rows.F.entry_set_update_loop ?_
    rw [Around.under_plainId PyProof.Rows.F.plain_set_update_loop _]
    show wpAny _ A.in1 (pyNext (.ref I) >>= _) _ _ s
    refine wpAny_bind (W.item i s _ _ lt hst fun v s' hP hst' mv => ?_)
    obtain ⟨x, t, hx, rfl⟩ := hval i v hP
    have hS' : s'.heap.SetOf (PySem.strKind prog w) S (fun k => (ded (xs.take i)).any (· == k)) (ded (xs.take i)).length := by
      obtain ⟨o, es, ep, tb, ho, rest⟩ := hS
      exact ⟨o, es, ep, tb, mv.heap S _ hSw ho, rest⟩
    show wpAny _ A.in1 (holding [Value.str x t] (setAdd S (.str x t)) >>= _) _ _ s'
    refine wpAny_bind (wpAny_holding ?_)
    unfold setAdd
    refine wpAny_holding (wpAny_bind ((PySem.strKind prog w).pyHash (k := x) (strKind_is _ _ _ _) ?_))
    have room : (ded (xs.take i)).length + 1 < scanBound := by
      have := ded_le xs i
      unfold scanBound; omega
    refine wpAny_setAddHashed_of (knd := PySem.strKind prog w) (s := { s' with toks := s'.toks + 1 }) (strKind_is _ _ _ _) rfl hS' room fun h' sb hS2 => ?_
    have et : xs.take (i + 1) = xs.take i ++ [x] := by rw [List.take_add_one, hx]; rfl
    have hSi : h'.SetOf (PySem.strKind prog w) S (fun k => (ded (xs.take (i + 1))).any (· == k)) (ded (xs.take (i + 1))).length := by
      rw [et, ded_snoc]
      exact SetOf_congr hS2 (fun k => (stp_any _ x k).symm) (stp_len _ x).symm
    refine wpAny_pure ⟨plainId_quiet PyProof.Rows.F.plain_set_update_loop _, ih (i + 1) _ (by omega) (W.frame _ s' _ _ hst' (Nat.le_succ _) fun b hb o e => ?_) hSi fun s'' mv2 hS3 => ?_⟩
    · rw [sb.2 b fun z => hSf (z ▸ hb)]; exact e
    · refine hR s'' (Moved.trans W.gtrans ((mv.mono sub).then_heap (Nat.le_succ _) fun b o hb e => ?_) mv2) hS3
      rw [sb.2 b fun z => hb (z ▸ List.mem_cons_self)]; exact e
end
theorem strs_get {us : List Value} {xs : List Str} (h : StrsAre us xs) : ∀ (i : Nat) v, us[i]? = some v → ∃ x t, xs[i]? = some x ∧ v = .str x t := by
  induction h with
  | nil => intro i v e; simp at e
  | cons y t r ih =>
    intro i v e
    cases i with
    | zero => simp at e; exact ⟨y, t, rfl, e.symm⟩
    | succ i => simpa using ih i v (by simpa using e)
set_option maxHeartbeats 3200000 in
theorem set_of_list {prog : Program} {w : World} {A : Around} {E : Value → Shared → Prop} {s : Shared} {l : Addr} {items : Array Value} {xs : List Str} {Q : Value → Shared → Prop} (hh : A.handled = none) (hl : s.heap.IsList l items)
    (hi : StrsAre items.toList xs) (hn : xs.length < 4000)
    (h : ∀ (h' : Heap) (tk : Nat), h'.SetOf (PySem.strKind prog w) s.heap.objs.size (fun k => (ded xs).any (· == k)) (ded xs).length → (∀ b o, b < s.heap.objs.size → s.heap.get? b = some o → h'.get? b = some o) →
      Q (.ref s.heap.objs.size) { s with heap := h', toks := tk }) : wpAny (model prog w) A (call (.type "set") [.ref l]) Q E s := by
  obtain ⟨c, tl, mro1⟩ := PySem.F.called_set.mro
  have made1 := PySem.F.called_set.made
  have sub1 := PySem.F.called_set.sub
  refine wpAny_call (codeAny_of_tree ?_)
  show wpAny _ _ (callAny (.type "set") _) _ _ _
  refine wpAny_pure ⟨Code.quiet_builtin _ (by decide +kernel), codeAny_builtin PySem.F.entry_type_call ?_⟩
  rw [Around.under_plain (weight_type_call_type "set" [.ref l] []) rfl]
  have nt1 := PySem.F.called_set.notType
  have cc1 := PySem.F.called_set.canCreate
  have tc1 := PySem.F.typeCall_set_1 (.ref l)
  repeat (any_goals (first | assumption | wp_step))
  refine codeAny_mono (code_set_new_1 (.ref l) (E := E) (Q₁ := fun obj s₁ => ∃ led : Bool, obj = .ref s.heap.objs.size ∧ s₁ = { s with heap := s.heap.push { cls := .type "set", dict := none, data := .set #[] 0 (.fresh 0 0 led) } }) fun led => ⟨led, rfl, rfl⟩) fun r s₁ hr => ?_
  cases r with
  | error e => exact hr
  | ok fl =>
    cases fl with
    | ret obj =>
      obtain ⟨led, rfl, rfl⟩ := hr
      have hS : (s.heap.push { cls := .type "set", dict := none, data := .set #[] 0 (.fresh 0 0 led) }).get? s.heap.objs.size = some { cls := .type "set", dict := none, data := .set #[] 0 (.fresh 0 0 led) } := Heap.get?_push_size _ rfl
      have tyS : Shared.TypeIs { s with heap := s.heap.push { cls := .type "set", dict := none, data := .set #[] 0 (.fresh 0 0 led) } } (.ref s.heap.objs.size) "set" := ⟨_, hS, rfl⟩
      have li1 := PySem.F.called_set.init.lookup
      have bi1 := PySem.F.called_set.init.bind (.ref s.heap.objs.size)
      repeat (any_goals (first | assumption | wp_step))
      refine codeAny_mono (codeAny_call_builtin (R := wants (fun r s₂ => r = .none ∧ ∃ h' tk, s₂ = { s with heap := h', toks := tk } ∧ h'.SetOf (PySem.strKind prog w) s.heap.objs.size (fun k => (ded xs).any (· == k)) (ded xs).length ∧
          (∀ b o, b < s.heap.objs.size → s.heap.get? b = some o → h'.get? b = some o)) E) PySem.F.called_set.init.plain PySem.F.entry_set_init (check_set_init_1 tyS ?_)) fun r₂ s₂ hr₂ => ?_
      · obtain ⟨ol, hol, hcl, nl, hdl⟩ := hl
        obtain ⟨ocls, odict, odata, oslots⟩ := ol
        simp only at hcl hdl
        subst hcl; subst hdl
        have hol' : (s.heap.push { cls := .type "set", dict := none, data := .set #[] 0 (.fresh 0 0 led) }).get? l = some { cls := .type "list", dict := odict, data := .seq items nl, slots := oslots } := Heap.get?_push_of_some _ hol
        have ss1 := PySem.F.sub_list_set
        have ss2 := PySem.F.sub_list_frozenset
        have ne1 : (Value.type "list" == Value.type "dict") = false := by decide
        have hl1 : (s.heap.push { cls := .type "set", dict := none, data := .set #[] 0 (.fresh 0 0 led) }).IsList l items := ⟨_, hol', rfl, nl, rfl⟩
        unfold Builtin.«set.__init__» noKeywords Builtin.Frozenset.updateFrom
        generalize hPI : pyIter = PI
        wp_walk
        subst hPI
        refine wpAny_pyIter_list hl1 ?_
        refine wpAny_bind (wpAny_runValue ?_)
        have lt1 : l < s.heap.objs.size := Heap.lt_size hol
        have hh3 : A.in1.in1.in1.handled = none := by simp [hh]
        have neI : l ≠ (s.heap.push { cls := .type "set", dict := none, data := .set #[] 0 (.fresh 0 0 led) }).objs.size := by
          rw [Heap.size_push]; exact Nat.ne_of_lt (Nat.lt_succ_of_lt lt1)
        have hSf : s.heap.objs.size ∉ [(s.heap.push { cls := .type "set", dict := none, data := .set #[] 0 (.fresh 0 0 led) }).objs.size, l] := by
          rw [Heap.size_push]; simp only [List.mem_cons, List.mem_singleton, List.not_mem_nil, or_false, not_or]
          exact ⟨Nat.ne_of_lt (Nat.lt_succ_self _), Nat.ne_of_gt lt1⟩
        have hsz : xs.length = items.size := by rw [← StrsAre.len_eq hi, Array.length_toList]
        refine set_loop ((Walks.list hh3 _ l neI items).toS) s.heap.objs.size hSf xs hsz (by omega) (fun i v hv => strs_get hi i v (by rw [Array.getElem?_toList]; exact hv)) items.size 0 _ (by omega) ⟨⟨_, Heap.get?_push_size _ rfl, rfl, rfl⟩, (hl1.push _)⟩ ?hS0 ?hR
        case hS0 =>
          have at0 := Heap.get?_push_of_some { cls := .type "list_iterator", data := .fields #[.ref l, .int 0 0] } hS
          exact SetOf_congr ((PyProof.Rows.setObjOf_fresh (knd := PySem.strKind prog w) led).setOf at0 (by unfold scanBound; omega)) (fun _ => rfl) rfl
        case hR =>
          intro s' mv hS'
          obtain ⟨h', g', d', tk', os'⟩ := s'
          have eg : g' = s.gens := mv.gens
          have ed : d' = s.drawn := mv.drawn
          have eo : os' = s.os := mv.os
          subst eg; subst ed; subst eo
          show wpAny _ _ _ _ _ _
          refine wpAny_pure ?_
          show wpAny _ _ (ret Value.none) _ _ _
          refine wpAny_pure ⟨rfl, h', tk', rfl, hS', fun b o hb e => ?_⟩
          have b1 : b ≠ s.heap.objs.size := Nat.ne_of_lt hb
          have b2 : b ≠ (s.heap.push { cls := .type "set", dict := none, data := .set #[] 0 (.fresh 0 0 led) }).objs.size := by
            rw [Heap.size_push]; exact Nat.ne_of_lt (Nat.lt_succ_of_lt hb)
          exact mv.heap b o (by simp only [List.mem_cons, List.mem_singleton, List.not_mem_nil, or_false, not_or]; exact ⟨b1, b2⟩) (Heap.get?_push_of_some _ (Heap.get?_push_of_some _ e))
      · cases r₂ with
        | error e => exact hr₂
        | ok fl₂ =>
          cases fl₂ with
          | ret r =>
            obtain ⟨rfl, h', tk, rfl, hS', hk'⟩ := hr₂
            repeat (any_goals (first | assumption | wp_step))
            exact h _ _ hS' hk'
          | _ => exact hr₂.elim
    | _ => exact hr.elim
set_option maxHeartbeats 3200000 in
theorem set_of_tuple {prog : Program} {w : World} {A : Around} {E : Value → Shared → Prop} {s : Shared} {l : Addr} {items : Array Value} {xs : List Str} {Q : Value → Shared → Prop} (hh : A.handled = none) (hl : s.heap.IsTuple l items)
    (hi : StrsAre items.toList xs) (hn : xs.length < 4000)
    (h : ∀ (h' : Heap) (tk : Nat), h'.SetOf (PySem.strKind prog w) s.heap.objs.size (fun k => (ded xs).any (· == k)) (ded xs).length → (∀ b o, b < s.heap.objs.size → s.heap.get? b = some o → h'.get? b = some o) →
      Q (.ref s.heap.objs.size) { s with heap := h', toks := tk }) : wpAny (model prog w) A (call (.type "set") [.ref l]) Q E s := by
  obtain ⟨c, tl, mro1⟩ := PySem.F.called_set.mro
  have made1 := PySem.F.called_set.made
  have sub1 := PySem.F.called_set.sub
  refine wpAny_call (codeAny_of_tree ?_)
  show wpAny _ _ (callAny (.type "set") _) _ _ _
  refine wpAny_pure ⟨Code.quiet_builtin _ (by decide +kernel), codeAny_builtin PySem.F.entry_type_call ?_⟩
  rw [Around.under_plain (weight_type_call_type "set" [.ref l] []) rfl]
  have nt1 := PySem.F.called_set.notType
  have cc1 := PySem.F.called_set.canCreate
  have tc1 := PySem.F.typeCall_set_1 (.ref l)
  repeat (any_goals (first | assumption | wp_step))
  refine codeAny_mono (code_set_new_1 (.ref l) (E := E) (Q₁ := fun obj s₁ => ∃ led : Bool, obj = .ref s.heap.objs.size ∧ s₁ = { s with heap := s.heap.push { cls := .type "set", dict := none, data := .set #[] 0 (.fresh 0 0 led) } }) fun led => ⟨led, rfl, rfl⟩) fun r s₁ hr => ?_
  cases r with
  | error e => exact hr
  | ok fl =>
    cases fl with
    | ret obj =>
      obtain ⟨led, rfl, rfl⟩ := hr
      have hS : (s.heap.push { cls := .type "set", dict := none, data := .set #[] 0 (.fresh 0 0 led) }).get? s.heap.objs.size = some { cls := .type "set", dict := none, data := .set #[] 0 (.fresh 0 0 led) } := Heap.get?_push_size _ rfl
      have tyS : Shared.TypeIs { s with heap := s.heap.push { cls := .type "set", dict := none, data := .set #[] 0 (.fresh 0 0 led) } } (.ref s.heap.objs.size) "set" := ⟨_, hS, rfl⟩
      have li1 := PySem.F.called_set.init.lookup
      have bi1 := PySem.F.called_set.init.bind (.ref s.heap.objs.size)
      repeat (any_goals (first | assumption | wp_step))
      refine codeAny_mono (codeAny_call_builtin (R := wants (fun r s₂ => r = .none ∧ ∃ h' tk, s₂ = { s with heap := h', toks := tk } ∧ h'.SetOf (PySem.strKind prog w) s.heap.objs.size (fun k => (ded xs).any (· == k)) (ded xs).length ∧
          (∀ b o, b < s.heap.objs.size → s.heap.get? b = some o → h'.get? b = some o)) E) PySem.F.called_set.init.plain PySem.F.entry_set_init (check_set_init_1 tyS ?_)) fun r₂ s₂ hr₂ => ?_
      · obtain ⟨ol, hol, hcl, nl, hdl⟩ := hl
        obtain ⟨ocls, odict, odata, oslots⟩ := ol
        simp only at hcl hdl
        subst hcl; subst hdl
        have hol' : (s.heap.push { cls := .type "set", dict := none, data := .set #[] 0 (.fresh 0 0 led) }).get? l = some { cls := .type "tuple", dict := odict, data := .seq items nl, slots := oslots } := Heap.get?_push_of_some _ hol
        have ss1 := PySem.F.sub_tuple_set
        have ss2 := PySem.F.sub_tuple_frozenset
        have ne1 : (Value.type "tuple" == Value.type "dict") = false := by decide
        have hl1 : (s.heap.push { cls := .type "set", dict := none, data := .set #[] 0 (.fresh 0 0 led) }).IsTuple l items := ⟨_, hol', rfl, nl, rfl⟩
        unfold Builtin.«set.__init__» noKeywords Builtin.Frozenset.updateFrom
        generalize hPI : pyIter = PI
        wp_walk
        subst hPI
        refine wpAny_pyIter_tuple hl1 ?_
        refine wpAny_bind (wpAny_runValue ?_)
        have lt1 : l < s.heap.objs.size := Heap.lt_size hol
        have hh3 : A.in1.in1.in1.handled = none := by simp [hh]
        have neI : l ≠ (s.heap.push { cls := .type "set", dict := none, data := .set #[] 0 (.fresh 0 0 led) }).objs.size := by
          rw [Heap.size_push]; exact Nat.ne_of_lt (Nat.lt_succ_of_lt lt1)
        have hSf : s.heap.objs.size ∉ [(s.heap.push { cls := .type "set", dict := none, data := .set #[] 0 (.fresh 0 0 led) }).objs.size, l] := by
          rw [Heap.size_push]; simp only [List.mem_cons, List.mem_singleton, List.not_mem_nil, or_false, not_or]
          exact ⟨Nat.ne_of_lt (Nat.lt_succ_self _), Nat.ne_of_gt lt1⟩
        have hsz : xs.length = items.size := by rw [← StrsAre.len_eq hi, Array.length_toList]
        refine set_loop ((Walks.tuple hh3 _ l neI items).toS) s.heap.objs.size hSf xs hsz (by omega) (fun i v hv => strs_get hi i v (by rw [Array.getElem?_toList]; exact hv)) items.size 0 _ (by omega) ⟨⟨_, Heap.get?_push_size _ rfl, rfl, rfl⟩, (hl1.push _)⟩ ?hS0 ?hR
        case hS0 =>
          have at0 := Heap.get?_push_of_some { cls := .type "tuple_iterator", data := .fields #[.ref l, .int 0 0] } hS
          exact SetOf_congr ((PyProof.Rows.setObjOf_fresh (knd := PySem.strKind prog w) led).setOf at0 (by unfold scanBound; omega)) (fun _ => rfl) rfl
        case hR =>
          intro s' mv hS'
          obtain ⟨h', g', d', tk', os'⟩ := s'
          have eg : g' = s.gens := mv.gens
          have ed : d' = s.drawn := mv.drawn
          have eo : os' = s.os := mv.os
          subst eg; subst ed; subst eo
          show wpAny _ _ _ _ _ _
          refine wpAny_pure ?_
          show wpAny _ _ (ret Value.none) _ _ _
          refine wpAny_pure ⟨rfl, h', tk', rfl, hS', fun b o hb e => ?_⟩
          have b1 : b ≠ s.heap.objs.size := Nat.ne_of_lt hb
          have b2 : b ≠ (s.heap.push { cls := .type "set", dict := none, data := .set #[] 0 (.fresh 0 0 led) }).objs.size := by
            rw [Heap.size_push]; exact Nat.ne_of_lt (Nat.lt_succ_of_lt hb)
          exact mv.heap b o (by simp only [List.mem_cons, List.mem_singleton, List.not_mem_nil, or_false, not_or]; exact ⟨b1, b2⟩) (Heap.get?_push_of_some _ (Heap.get?_push_of_some _ e))
      · cases r₂ with
        | error e => exact hr₂
        | ok fl₂ =>
          cases fl₂ with
          | ret r =>
            obtain ⟨rfl, h', tk, rfl, hS', hk'⟩ := hr₂
            repeat (any_goals (first | assumption | wp_step))
            exact h _ _ hS' hk'
          | _ => exact hr₂.elim
    | _ => exact hr.elim
/-- len(set(xs)), xs a list or a tuple of texts -/
def tLenSetS (K : PySem.W.Frag) (ta : TE) : TE := fun σ H Q => ta σ H fun x H1 => ∃ l, ∃ xs : List Str, x = .ref l ∧ (SqL K H1 l (xs.map V.str) ∨ SqT K H1 l (xs.map V.str)) ∧ xs.length < 4000 ∧ Q (.int (ded xs).length) H1
theorem pe_lenSetS {X : Cx} {a : Expr} {ta : TE} {p p2 q pos : Pos} (hc : X.calm = true) (hg : Gl X "len") (hm : X.mg "len" = none) (hg2 : Gl X "set") (hm2 : X.mg "set" = none) (ha : PE X a ta)
    (na : starEach [a] X.env = (false, eval a X.env) :: starEach [] X.env := by rfl) : PE X (.Call (.Name "len" p) [.Call (.Name "set" p2) [a] [] q] [] pos) (tLenSetS X.K ta) := by
  refine ⟨fun pins s σ H Q I h => ?_⟩
  refine Call_ (ld_blt I hg hm boot_len (PyProof.Rows.callWith_builtin1 (PyProof.Rows.args_cons ?_ rfl) rfl rfl))
  refine Call_ (ld_blt I hg2 hm2 boot_set ?_)
  refine PyProof.Rows.callWith_type1 (PyProof.Rows.args_cons (thn (ha.run pins s σ H _ I h) fun v s1 z => PyProof.Rows.args_nil ?_) na) na rfl
  obtain ⟨x, H1, I1, r1, l, xs, rfl, hq, h1, q1⟩ := z
  cases r1
  have fin : ∀ (h' : Heap) (tk : Nat), h'.SetOf (PySem.strKind X.prog X.w) s1.heap.objs.size (fun k => (ded xs).any (· == k)) (ded xs).length → (∀ b o, b < s1.heap.objs.size → s1.heap.get? b = some o → h'.get? b = some o) →
      wpAny (model X.prog X.w) X.A (spliced (backTo pos (starEach [] X.env))) (fun vs s₂ => wpAny (model X.prog X.w) X.A (call (.builtin "len") (Value.ref s1.heap.objs.size :: vs)) (EP X pins σ Q) X.xe s₂) X.xe { s1 with heap := h', toks := tk } := fun h' tk hS hk => by
    refine PyProof.Rows.args_nil ?_
    have dl := ded_le xs xs.length
    rw [List.take_length] at dl
    obtain ⟨o, es, ep, t, ho, hex, hd, _, _, _, hf, hn⟩ := hS
    have I2 : Inv X pins σ H1 { s1 with heap := h', toks := tk } := I1.kept fun b o e => hk b o (Heap.lt_size e) e
    refine call_len_set ho hex hd hf (by rw [hn]; omega) ⟨.int (ded xs).length, H1, I2.tok _, ⟨_, by rw [hn]⟩, q1⟩
  rcases hq with hq | hq
  · obtain ⟨its, r, pl, hz⟩ := I1.list hq
    exact set_of_list (I1.ok.hd hc) pl.isList (by simpa using strsAre_of r) h1 fin
  · obtain ⟨its, r, pl, hz⟩ := I1.tuple hq
    exact set_of_tuple (I1.ok.hd hc) pl (by simpa using strsAre_of r) h1 fin
theorem klenset {X : Cx} {K : PySem.W.Frag} {a : Expr} {ta : TE} {p p2 q pos : Pos} (h : X.K = K) (hc : X.calm = true) (hg : Gl X "len") (hm : X.mg "len" = none) (hg2 : Gl X "set") (hm2 : X.mg "set" = none) (ha : PE X a ta)
    (na : starEach [a] X.env = (false, eval a X.env) :: starEach [] X.env := by rfl) : PE X (.Call (.Name "len" p) [.Call (.Name "set" p2) [a] [] q] [] pos) (tLenSetS K ta) := h ▸ pe_lenSetS hc hg hm hg2 hm2 ha na
theorem ew_lenset {K : PySem.W.Frag} {te : TE} {ρ : Env} {Q : D → Env → Prop} (h : EvW K te ρ fun d ρ1 => ∃ xs, d.seq = some (strsD xs) ∧ xs.length < 4000 ∧ Q (.int (ded xs).length) ρ1) : EvW K (tLenSetS K te) ρ Q := fun F G H σ R Q' k =>
  h F G H σ R _ fun v d ρ1 G1 H1 e1 R1 hv q => by
    obtain ⟨xs, hd, hl, q⟩ := q
    cases d with
    | lst ys =>
      cases hd
      obtain ⟨a, vs, rfl, h1, h2⟩ := rep_lst hv
      rw [reps_strs h2] at h1
      exact ⟨a, xs, rfl, .inl (.inl (.inl (R1.wd.g _ _ h1))), hl, k _ _ ρ1 G1 H1 e1 R1 (.int _) q⟩
    | tup ys =>
      cases hd
      obtain ⟨a, vs, rfl, h1, h2⟩ := rep_tup hv
      rw [reps_strs h2] at h1
      exact ⟨a, xs, rfl, .inr (R1.wd.g.sqT h1), hl, k _ _ ρ1 G1 H1 e1 R1 (.int _) q⟩
    | _ => cases hd
end DL

set_option Elab.async false
set_option linter.all false
set_option maxRecDepth 100000
namespace DL
open PySem PySem.Spec PyProof.Rows L2
section
variable {K : PySem.W.Frag} {te ta tb tc td ty tv tk : TE} {tt tu : TT} {ts : TA} {ρ : Env} {Q : D → Env → Prop} {E : EndD}
theorem OwnR.rdx {G G' : Hp} {o : Option HO} {d : D} (h : OwnR K G o d) (x : RdX G G') : OwnR K G' o d := by
  cases d with
  | lst _ => obtain ⟨vs, e, r⟩ := h; exact ⟨vs, e, r.rdx x⟩
  | dk _ => obtain ⟨vs, e, k, r⟩ := h; exact ⟨vs, e, k, r.rdx x⟩
  | dt _ => obtain ⟨vs, e, k, r⟩ := h; exact ⟨vs, e, k, r.rdx x⟩
  | ins _ _ => obtain ⟨dx, vs, e, k, r⟩ := h; exact ⟨dx, vs, e, k, r.rdx x⟩
  | _ => exact h.elim
theorem SlotOk.rdx {F G G' H H' : Hp} {s : Option V} {r : Sl} (h : SlotOk K F G H s r) (e : RdX G G') (ht : ∀ t xs, G t = some (.tup xs) → G' t = some (.tup xs)) (k : ∀ a ∈ r.adr, H' a = H a ∧ G' a = none) : SlotOk K F G' H' s r := by
  cases r with
  | un => trivial
  | sh d => obtain ⟨v, h1, h2⟩ := h; exact ⟨v, h1, h2.rdx e⟩
  | own b d =>
    obtain ⟨h0, h1, h2, h3⟩ := h
    have kb := k b (List.mem_singleton.mpr rfl)
    exact ⟨h0, kb.2, h2, by rw [kb.1]; exact h3.rdx e⟩
  | drw b =>
    obtain ⟨h0, h1, h2, h3⟩ := h
    have kb := k b (List.mem_singleton.mpr rfl)
    exact ⟨h0, kb.2, h2, by rw [kb.1]; exact h3⟩
  | two p q xs ys =>
    obtain ⟨⟨t, h0, h00⟩, h1, h2, h3, h4, h5, h6⟩ := h
    have kp := k p List.mem_cons_self
    have kq := k q (List.mem_cons_of_mem _ (List.mem_singleton.mpr rfl))
    exact ⟨⟨t, h0, ht _ _ h00⟩, kp.2, h2, kq.2, h4, by rw [kp.1]; exact h5, by rw [kq.1]; exact h6⟩
/-- a shared dict locked and unlocked -/
theorem RE.relock {F G H : Hp} {σ : L2.St} {d : Addr} {u u' : HO} (R : RE K F G H σ ρ) (hd : G d = some u) (e : RdX G (upd G d u')) (hu : ∀ xs, u ≠ .tup xs) : RE K F (upd G d u') (upd H d u') σ ρ := by
  refine ⟨⟨fun a o h => ?_, R.wd.g.upd, fun a o h => ?_⟩, R.sl.map (fun i s r _ hr q => q.rdx e (fun t xs z => ?_) fun a m => ?_), R.nd⟩
  · have ne : a ≠ d := fun z => by rw [z] at h; rw [R.wd.fg d o h] at hd; cases hd
    rw [upd_ne ne]; exact R.wd.f a o h
  · have ne : a ≠ d := fun z => by rw [z] at h; rw [R.wd.fg d o h] at hd; cases hd
    rw [upd_ne ne]; exact R.wd.fg a o h
  · have ne : t ≠ d := fun z' => by rw [z', hd] at z; cases z; exact hu _ rfl
    rw [upd_ne ne]; exact z
  · have ne : a ≠ d := fun z => by
      have := (q.own m).1
      rw [z, hd] at this; cases this
    rw [upd_ne ne, upd_ne ne]
    exact ⟨rfl, (q.own m).1⟩
theorem rdx_lock {G : Hp} {d : Addr} {od : Obj} {kvs : List (Key × V)} (hd : G d = some (.dK kvs)) : RdX G (upd G d (.frz od (.dK kvs))) := by
  refine ⟨fun a u hu h => ?_, fun a C dx fs h => ?_, fun a xs h => ?_⟩
  · by_cases e : a = d
    · subst e
      rcases h with h | ⟨o, h⟩
      · rw [hd] at h; cases h; exact .inr ⟨od, upd_same⟩
      · rw [hd] at h; cases h
    · unfold Rd; rw [upd_ne e]; exact h
  · have ne : a ≠ d := fun z => by rw [z, hd] at h; cases h
    rw [upd_ne ne]; exact h
  · have ne : a ≠ d := fun z => by rw [z, hd] at h; cases h
    rw [upd_ne ne]; exact h
theorem rdx_unlock {G : Hp} {d : Addr} {od : Obj} {kvs : List (Key × V)} (hd : G d = some (.frz od (.dK kvs))) : RdX G (upd G d (.dK kvs)) := by
  refine ⟨fun a u hu h => ?_, fun a C dx fs h => ?_, fun a xs h => ?_⟩
  · by_cases e : a = d
    · subst e
      rcases h with h | ⟨o, h⟩
      · rw [hd] at h; cases h; exact hu.elim
      · rw [hd] at h; cases h; exact .inl upd_same
    · unfold Rd; rw [upd_ne e]; exact h
  · have ne : a ≠ d := fun z => by rw [z, hd] at h; cases h
    rw [upd_ne ne]; exact h
  · have ne : a ≠ d := fun z => by rw [z, hd] at h; cases h
    rw [upd_ne ne]; exact h
theorem rep_of_kD {H : Hp} (k : Key) : Rep K H (kV k) (kD k) := by
  cases k with
  | inl i => exact .int i
  | inr x => exact .str x
theorem yl_keys {G : Hp} {d : Addr} {o : Obj} {kvs : List (Key × V)} {ps : List (Key × D)} (h : G d = some (.frz o (.dK kvs))) (hk : kvs.map (·.1) = ps.map (·.1)) : Yields K G (Itk d o kvs) (ps.map fun p => kD p.1) where
  go := fun F G2 H2 σ ρ i e R hi => ⟨R.wd.g _ _ (e _ _ h), by have := congrArg List.length hk; simp at this hi; omega⟩
  stop := fun F G2 H2 σ ρ e R => ⟨R.wd.g _ _ (e _ _ h), by have := congrArg List.length hk; simp at this ⊢; omega⟩
  yld := fun F G2 H2 σ ρ i x H3 e R hi y => by
    obtain ⟨rfl, k, v, hkv, rfl⟩ := y
    refine ⟨G2, kD k, Ex.refl _, R, ?_, rep_of_kD k⟩
    have z : (kvs.map (·.1))[i]? = some k := by rw [List.getElem?_map, hkv]; rfl
    rw [hk, List.getElem?_map] at z
    obtain ⟨p, hp, rfl⟩ := Option.map_eq_some_iff.mp z
    rw [List.getElem?_map, hp]; rfl
theorem for_core {J : It} {g : TG} {t : TS} {Dn : Ends} {F G H : Hp} {σ : L2.St} {ds : List D} (R1 : RE K F G H σ ρ) (Y : Yields K G J ds) (L : Links K F G E Dn) (P : Nat → Env → Prop) (p0 : P 0 ρ)
    (turn : ∀ i d ρ', ds[i]? = some d → P i ρ' → GW K g d ρ' fun ρ2 => WS K t ρ2 { E with nx := P (i + 1), ct := P (i + 1), bk := E.nx }) (fin : ∀ ρ', P ds.length ρ' → E.nx ρ') : tFor (fun σ H R => R J H) g t Dn σ H := by
  refine ⟨fun i m σ' H' => m + i = ds.length ∧ ∃ ρ' G', Ex G G' ∧ RE K F G' H' σ' ρ' ∧ P i ρ', ⟨ds.length, rfl, ρ, G, Ex.refl _, R1, p0⟩, ?_⟩
  rintro i m σ' H' ⟨hm, ρ', G', e', R', p⟩
  by_cases hi : i < ds.length
  · refine .inr ⟨Y.go F G' H' σ' ρ' i e' R' hi, fun σ2 H2 => ∃ ρ2 G2, Ex G G2 ∧ RE K F G2 H2 σ2 ρ2 ∧ P (i + 1) ρ2, fun σ2 H2 z => ⟨m - 1, by omega, by omega, z⟩, fun x H2 y => ?_⟩
    obtain ⟨G2, d, e2, R2, hd, hx⟩ := Y.yld F G' H' σ' ρ' i x H2 e' R' hi y
    refine turn i d ρ' hd p F G2 H2 σ' x R2 hx _ fun σ3 ρ3 G3 H3 e3 R3 w3 => ?_
    refine w3 F G3 H3 σ3 _ R3 ⟨fun σ4 ρ4 G4 H4 e4 R4 p4 => ⟨ρ4, G4, ((e'.trans e2).trans e3).trans e4, R4, p4⟩, fun v d σ4 ρ4 G4 H4 e4 R4 hv r4 => ?_, fun σ4 ρ4 G4 H4 e4 R4 p4 => ?_, fun σ4 ρ4 G4 H4 e4 R4 p4 => ⟨ρ4, G4, ((e'.trans e2).trans e3).trans e4, R4, p4⟩, fun p d σ4 ρ4 G4 H4 e4 R4 => L.ro p d σ4 ρ4 G4 H4 (((e'.trans e2).trans e3).trans e4) R4⟩
    · exact L.rt v d σ4 ρ4 G4 H4 (((e'.trans e2).trans e3).trans e4) R4 hv r4
    · exact L.nx σ4 ρ4 G4 H4 (((e'.trans e2).trans e3).trans e4) R4 p4
  · have ei : i = ds.length := by omega
    subst ei
    exact .inl ⟨Y.stop F G' H' σ' ρ' e' R', L.nx σ' ρ' G' H' e' R' (fin ρ' p)⟩
theorem ps_or {X : Cx} {st : Stmt} {t u : TS} (h : PS X st t) (h' : PS X st u) : PS X st (fun D σ H => t D σ H ∨ u D σ H) :=
  ⟨fun pins s σ H D I q => q.elim (fun q => h.run pins s σ H D I q) fun q => h'.run pins s σ H D I q⟩
/-- for k in d, d a dict that is shared -/
theorem ws_forK {g : TG} {t : TS} {i : Nat} {ps : List (Key × D)} (hi : ρ[i]? = some (.sh (.dk ps))) (P : Nat → Env → Prop) (p0 : P 0 ρ)
    (turn : ∀ i d ρ', (ps.map fun p => kD p.1)[i]? = some d → P i ρ' → GW K g d ρ' fun ρ2 => WS K t ρ2 { nx := P (i + 1), rt := fun _ _ => False, bk := P ps.length, ct := P (i + 1) }) (fin : ∀ ρ', P ps.length ρ' → E.nx ρ') :
    WS K (fun D σ H => tLock (tFor (iKeys (tVar i)) g t) D σ H ∨ tFor (iKeys (tVar i)) g t D σ H) ρ E := fun F G H σ Dn R L => by
  obtain ⟨s, hs, v, rfl, hv⟩ := R.sl.get hi
  obtain ⟨a, kvs, rfl, hd, hk, hr⟩ := rep_dk hv
  have hlen : (ps.map fun p => kD p.1).length = ps.length := List.length_map ..
  rcases hd with hG | ⟨o, hG⟩
  · refine .inl ⟨a, .dK kvs, R.wd.g _ _ hG, trivial, fun od => ?_⟩
    have R1 := R.relock (u' := .frz od (.dK kvs)) hG (rdx_lock hG) (fun xs z => nomatch z)
    refine ⟨.ref a, hs, a, od, rfl, .inl ⟨kvs, upd_same, ?_⟩⟩
    refine for_core (E := { nx := P ps.length, rt := fun _ _ => False }) R1 (yl_keys upd_same hk) ⟨fun σ' ρ' G' H' e R' q => ?_, fun v d σ' ρ' G' H' e R' hv q => q.elim, fun σ' ρ' G' H' e R' q => q.elim, fun σ' ρ' G' H' e R' q => q.elim, fun p d σ' ρ' G' H' e R' _ _ _ _ q => q.elim⟩ P p0 turn (by rw [hlen]; exact fun ρ' z => z)
    have hG' := e _ _ (upd_same (H := G) (a := a) (o := .frz od (.dK kvs)))
    refine ⟨R'.wd.g _ _ hG', L.nx σ' ρ' (upd G' a (.dK kvs)) _ (fun b u z => ?_) (R'.relock hG' (rdx_unlock hG') (fun xs z => nomatch z)) (fin ρ' q)⟩
    by_cases eb : b = a
    · subst eb; rw [hG] at z; cases z; exact upd_same
    · rw [upd_ne eb]; exact e b u (by rw [upd_ne eb]; exact z)
  · refine .inr ⟨.ref a, hs, a, o, rfl, .inl ⟨kvs, R.wd.g _ _ hG, ?_⟩⟩
    exact for_core (E := { nx := P ps.length, rt := fun _ _ => False }) R (yl_keys hG hk) ⟨fun σ' ρ' G' H' e R' q => L.nx σ' ρ' G' H' e R' (fin ρ' q), fun v d σ' ρ' G' H' e R' hv q => q.elim, fun σ' ρ' G' H' e R' q => q.elim, fun σ' ρ' G' H' e R' q => q.elim, fun p d σ' ρ' G' H' e R' _ _ _ _ q => q.elim⟩ P p0 turn (by rw [hlen]; exact fun ρ' z => z)
theorem dput_le {κ : Type} [DecidableEq κ] (ps : List (κ × D)) (k : κ) (d : D) : (dput ps k d).length ≤ ps.length + 1 := by
  unfold dput
  split
  · rw [List.length_map]; omega
  · simp
/-- {tk: tv for g in wi if tt} -/
theorem en_dc {wi : TI} {g : TG} {vs : List Nat} (h : EvI K wi ρ fun ds ρ1 => ownFree ρ1 vs = true ∧ ds.length ≤ 90000 ∧ ∃ P : Nat → List (Key × D) → Prop, P 0 [] ∧
      (∀ i d acc, ds[i]? = some d → P i acc → GV K g vs d (wipeE ρ1 vs) fun ρ2 => EvT K tt ρ2 fun b ρ3 => ρ3 = ρ2 ∧ if b = true then EvW K tk ρ2 fun y ρ4 => ρ4 = ρ2 ∧ EvW K tv ρ2 fun z ρ5 => ρ5 = ρ2 ∧ ∃ k, y = kD k ∧ P (i + 1) (dput acc k z) else P (i + 1) acc) ∧
      ∀ acc, P ds.length acc → Q (.dk acc) ρ1) : EvN K (tDc wi g tt tk tv vs) ρ Q := fun F G H σ R Q' k =>
  h F G H σ R _ fun J ds ρ1 G1 H1 e1 R1 Y q => fun Dd hD => by
    obtain ⟨hv0, hlen, P, p0, turn, fin⟩ := q
    have hv := ownFree_at hv0
    have hF0 : F Dd = none := R1.wd.f.none hD
    have hO : Dd ∉ ownA ρ1 := ownA_fresh R1 hD
    refine ⟨fun i m H' => m + i = ds.length ∧ ∃ acc accV G', Ex G1 G' ∧ RE K F G' H' σ ρ1 ∧ G' Dd = none ∧ H' Dd = some (.dK accV) ∧ accV.map (·.1) = acc.map (·.1) ∧ Reps K G' (accV.map (·.2)) (acc.map (·.2)) ∧ acc.length ≤ i ∧ P i acc,
      ⟨ds.length, rfl, [], [], G1, Ex.refl _, R1.alone hD, R1.wd.g.none hD, upd_same, rfl, .nil, Nat.le_refl _, p0⟩, ?_⟩
    rintro i m H' ⟨hm, acc, accV, G', e', R', hG, hH, rk, ra, hl, p⟩
    have Rf := R'.frm hH hG hO
    by_cases hi : i < ds.length
    · refine .inr ⟨Y.go _ G' H' σ ρ1 i e' Rf hi, fun H2 => ∃ acc accV G2, Ex G1 G2 ∧ RE K F G2 H2 σ ρ1 ∧ G2 Dd = none ∧ H2 Dd = some (.dK accV) ∧ accV.map (·.1) = acc.map (·.1) ∧ Reps K G2 (accV.map (·.2)) (acc.map (·.2)) ∧ acc.length ≤ i + 1 ∧ P (i + 1) acc, fun H2 z => ⟨m - 1, by omega, by omega, z⟩, fun x H2 y => ?_⟩
      obtain ⟨G2, d, e2, R2, hd, hx⟩ := Y.yld _ G' H' σ ρ1 i x H2 e' Rf hi y
      refine turn i d acc hd p _ G2 H2 _ x (R2.wipe vs) hx _ fun σ2 ρ2 l2 s2 R3 w3 => ?_
      refine ⟨?_, w3 _ G2 H2 σ2 R3 _ fun b ρ3 G4 H4 e4 R4 w4 => ?_⟩
      · have e0 : L2.wipe (L2.wipe σ vs) vs = L2.wipe σ vs := wipe_eq (L2.wipe_length σ vs) fun i hi => wipe_at hi
        rw [wipe_eq l2 fun i hi => (s2 i hi).1, e0]
      obtain ⟨rfl, w4⟩ := w4
      have back : ∀ {G5 H5 : Hp}, Ex G2 G5 → RE K (upd F Dd (.dK accV)) G5 H5 σ2 ρ3 → RE K F G5 H5 σ ρ1 ∧ H5 Dd = some (.dK accV) ∧ G5 Dd = none := fun {G5 H5} e5 R5 => by
        obtain ⟨R6, h6, g6⟩ := R5.unfrm hF0
        refine ⟨⟨R6.wd, Slots.join (e2.trans e5) R'.sl R6.sl (fun j r hr ho => ?_), R'.nd⟩, h6, g6⟩
        have hj := hv j r hr ho
        rw [(s2 j hj).1, (s2 j hj).2, wipe_at hj, wipeE_at hj]
        exact ⟨hr, rfl⟩
      cases b with
      | true =>
        refine w4 _ G4 H4 σ2 R4 _ fun v yv ρ5 G5 H5 e5 R5 hvy w5 => ?_
        obtain ⟨rfl, w5⟩ := w5
        refine w5 _ G5 H5 σ2 R5 _ fun v2 zv ρ6 G6 H6 e6 R6 hvz w6 => ?_
        obtain ⟨rfl, kk, rfl, w6⟩ := w6
        obtain ⟨R7, h7, g7⟩ := back ((e4.trans e5).trans e6) R6
        have e9 : Ex G' G6 := ((e2.trans e4).trans e5).trans e6
        obtain ⟨z1, z2⟩ := put_rel (k := kk) rk (ra.mono e9) hvz
        have hll : accV.length = acc.length := by have := congrArg List.length rk; simpa using this
        refine ⟨accV, kk, rep_kD hvy, h7, by rw [hll]; exact bigl (by omega), dput acc kk zv, putK accV kk v2, G6, e'.trans e9, R7.aloneU g7 hF0 hO, g7, upd_same, z1, z2, by have := dput_le acc kk zv; omega, w6⟩
      | false =>
        obtain ⟨R6, h6, g6⟩ := back e4 R4
        exact ⟨acc, accV, G4, (e'.trans e2).trans e4, R6, g6, h6, rk, ra.mono (e2.trans e4), by omega, w4⟩
    · have ei : i = ds.length := by omega
      subst ei
      exact .inl ⟨Y.stop _ G' H' σ ρ1 e' R', k Dd (.dk acc) ρ1 G' H' (e1.trans e') R' hG hF0 hO ⟨accV, hH, rk, ra⟩ (fin acc p)⟩
/-! ### instances in the making -/
def putD (f : Str) (d : D) : List (Str × D) → List (Str × D)
  | [] => [(f, d)]
  | (g, x) :: r => if g = f then (g, d) :: r else (g, x) :: putD f d r
theorem putF_rel {H : Hp} {f : Str} {v : V} {d : D} (hv : Rep K H v d) : ∀ {fs : List (Str × V)} {ps : List (Str × D)}, fs.map (·.1) = ps.map (·.1) → Reps K H (fs.map (·.2)) (ps.map (·.2)) →
    (putF f v fs).map (·.1) = (putD f d ps).map (·.1) ∧ Reps K H ((putF f v fs).map (·.2)) ((putD f d ps).map (·.2))
  | [], [], _, _ => ⟨rfl, .cons hv .nil⟩
  | [], _ :: _, e, _ => by simp at e
  | _ :: _, [], e, _ => by simp at e
  | (g, x) :: fs, (g', y) :: ps, e, r => by
    simp only [List.map_cons, List.cons.injEq] at e
    obtain ⟨rfl, e⟩ := e
    cases r with
    | cons r1 r2 =>
      unfold putF putD
      by_cases h : g = f
      · rw [if_pos h, if_pos h]
        simp only [List.map_cons]
        exact ⟨by rw [e], .cons hv r2⟩
      · rw [if_neg h, if_neg h]
        obtain ⟨i1, i2⟩ := putF_rel hv e r2
        simp only [List.map_cons]
        exact ⟨by rw [i1], .cons r1 i2⟩
/-- self.f = v -/
theorem ws_fldset {i : Nat} {a : Addr} {C f : Str} (hc : Cls K (He.ga K C)) (hn : NoAttr K (He.ga K C) f) (h : EvW K tv ρ fun d ρ1 => ∃ ps, ρ1[i]? = some (.own a (.ins C ps)) ∧ ps.length < 1000 ∧ E.nx (ρ1.set i (.own a (.ins C (putD f d ps))))) : WS K (sFld K (tVar i) tv f) ρ E := fun F G H σ Dn R L =>
  h F G H σ R _ fun v d ρ1 G1 H1 e1 R1 hv q => by
    obtain ⟨ps, hi, hl, q⟩ := q
    obtain ⟨s, hs, rfl, hG, hF, dx, fs, hd, hk, hr⟩ := R1.sl.get hi
    obtain ⟨z1, z2⟩ := putF_rel (f := f) hv hk hr
    have hll : fs.length = ps.length := by have := congrArg List.length hk; simpa using this
    exact ⟨.ref a, hs, a, _, dx, fs, rfl, hd, hc, hn, by omega, L.nx _ _ G1 _ e1 (R1.mut (r' := .own a (.ins C (putD f d ps))) hi (List.mem_singleton.mpr rfl) (List.Sublist.refl _) hs ⟨rfl, hG, hF, dx, _, upd_same, z1, z2⟩) q⟩
def spI (K : PySem.W.Frag) (C : Str) (T : List D → (D → Prop) → Prop) : Sp := fun vs H Q _ => ∃ a dx ws F G ds Qd, vs = .ref a :: ws ∧ Wd F G H ∧ G a = none ∧ F a = none ∧ H a = some (.ins (He.ga K C) dx []) ∧ Reps K G ws ds ∧ T ds Qd ∧
  ∀ ps G' H', Ex G G' → Wd F G' H' → G' a = none → OwnR K G' (H' a) (.ins C ps) → Qd (.ins C ps) → Q .non H'
structure FnI (P : Program) (w : World) (K : PySem.W.Frag) (mg : Str → Option Value) (base : Heap) (k : Nat) (C : Str) (ps : List Str) (sp : Sp) : Prop where
  ex : ∃ f fd, FnOk P w K mg base CX0 k f fd ps sp ∧ Binds K fd ps [] ∧ Mk K (He.ga K C) f
  at_ : mg C = some (.ref (He.ga K C))
theorem pe_makeF {X : Cx} {k : Nat} {x : Str} {ps : List Str} {sp : Sp} {e : Expr} {es : List Expr} {t : TA} {p pos : Pos} (F : FnI X.prog X.w X.K X.mg X.base k x ps sp) (hr : Room (k + 1) X.A) (ha : PA X (e :: es) t) (hg : Gl X x := by rfl)
    (he : starEach (e :: es) X.env = (false, eval e X.env) :: starEach es X.env := by rfl) (hpl : (backTo pos (starEach es X.env)).any (·.1) = false := by rfl) (hd : (x == ("__debug__" : Str)) = false := by decide) : PE X (.Call (.Name x p) (e :: es) [] pos) (tMake (He.ga X.K x) sp [] E0 t) := by
  obtain ⟨f, fd, h1, h2, h3⟩ := F.ex
  exact pe_make h3 h1 hr hg F.at_ h2 .nil pass0 ha hd he hpl
theorem ew_make {C : Str} {T : List D → (D → Prop) → Prop} {E : XK} (h : EvA K ts ρ fun ds ρ1 => T ds fun d => Q d ρ1) : EvW K (tMake (He.ga K C) (spI K C T) [] E ts) ρ Q := fun F G H σ R Q' k =>
  h F G H σ R _ fun vs ds ρ1 G1 H1 e1 R1 hv q => fun x dx hx hdx hne => by
    have hx2 : upd H1 dx (.own x) x = none := by rw [upd_ne (Ne.symm hne)]; exact hx
    have W := R1.wdF (as := ownA ρ1) (fun _ m => m)
    have ex2 : Ex H1 (upd (upd H1 dx (.own x)) x (.ins (He.ga K C) dx [])) := (Ex.new hdx).trans (Ex.new hx2)
    have nx := ownA_fresh R1 hx
    have hFx := R1.wd.f.none hx
    refine ⟨x, dx, vs, addF F H1 (ownA ρ1), G1, ds, _, by rw [List.append_nil], ⟨W.f.trans ex2, W.g.trans ex2, W.fg⟩, R1.wd.g.none hx, by rw [addF_out nx]; exact hFx, upd_same, hv, q, fun ps G' H' e W' hG o qd => ⟨rfl, ?_⟩⟩
    have R2 := R1.back W' e
    obtain ⟨u, hu, _⟩ := o.some
    exact k (.ref x) (.ins C ps) ρ1 (upd G' x u) H' ((e1.trans e).trans (Ex.new hG)) (R2.share hu hG hFx nx) (ownR_rep o (by rw [upd_same, hu]) (Ex.new hG)) qd
theorem fn_I {P : Program} {w : World} {mg : Str → Option Value} {base : Heap} {x qual C : Str} {params : Arguments} {body : List Stmt} {scope : Scope} {f : Addr} {fd : FuncData} {N ps : List Str} {k : Nat} {T : List D → (D → Prop) → Prop}
    (F : FunD K x qual params body scope [] [] f fd) (M : Mk K (He.ga K C) f) (at_ : mg C = some (.ref (He.ga K C)))
    (bi : ∀ (kV doc pm : Value) (an : Option Addr) (cdv ct : Value) (us : List Value), us.length = ps.length → bindArgs (PySem.W.fnOf x qual params body scope .none kV doc pm an cdv ct) ⟨us, []⟩ = pure (ps.zip us))
    (S : FnScope N ps scope) (hN : N ≠ []) (hl : ∀ ds Qd, T ds Qd → ds.length + 1 = ps.length)
    (hb : ∀ (cdv : Value) (A : Around) (outer : List PySem.Env) (s : Shared) (H : Hp) (E : XK), Room k (A.deeper (envOfC qual scope s.heap.objs.size f cdv)) →
      ∃ t, PSs (cxOf CX0 P w K mg base N qual scope f cdv A outer s H E).nox body t ∧ ∀ a ds Qd, T ds Qd → WS K t (Sl.own a (.ins C []) :: (ds.map Sl.sh ++ List.replicate (N.length - 1 - ds.length) Sl.un)) { nx := fun ρ => ∃ ps, ρ[0]? = some (.own a (.ins C ps)) ∧ Qd (.ins C ps), rt := fun d ρ => False }) :
    FnI P w K mg base (k + 1) C ps (spI K C T) := by
  refine ⟨⟨f, fd, F.ok S (fun vs H Q E h => ?_) (fun cdv A outer s H vs Q E hr h => ?_), F.bindsN bi, M⟩, at_⟩
  · obtain ⟨a, dx, ws, _, _, ds, Qd, rfl, _, _, _, _, r, t, _⟩ := h
    rw [List.length_cons, r.length]; exact hl ds Qd t
  · obtain ⟨a, dx, ws, F', G, ds, Qd, rfl, W, hG, hF, hD, r, tt, post⟩ := h
    obtain ⟨t, hd, hw⟩ := hb cdv A outer s H E hr
    refine ⟨t, PSs.nox hd, ?_⟩
    have es : L2.start N (.ref a :: ws) = some (.ref a) :: (ws.map some ++ List.replicate (N.length - 1 - ws.length) none) := by
      unfold L2.start
      simp only [List.map_cons, List.cons_append, List.length_cons]
      rw [show N.length - (ws.length + 1) = N.length - 1 - ws.length by omega]
    have R : RE K F' G H (L2.start N (.ref a :: ws)) (Sl.own a (.ins C []) :: (ds.map Sl.sh ++ List.replicate (N.length - 1 - ds.length) Sl.un)) := by
      rw [es]
      refine ⟨W, ⟨⟨rfl, hG, hF, dx, [], hD, rfl, .nil⟩, by rw [r.length]; exact slots_start _ r⟩, ?_⟩
      show (a :: ownA (ds.map Sl.sh ++ List.replicate (N.length - 1 - ds.length) Sl.un)).Nodup
      rw [own_start]
      simp
    refine hw a ds Qd tt F' G H _ _ R ⟨fun σ' ρ' G' H' e R' q => ?_, fun v d σ' ρ' G' H' e R' hv q => q.elim, fun σ' ρ' G' H' e R' q => q.elim, fun σ' ρ' G' H' e R' q => q.elim, fun p d σ' ρ' G' H' e R' _ _ _ _ q => q.elim⟩
    obtain ⟨ps', h0, qd⟩ := q
    obtain ⟨_, _, _, z1, _, z2⟩ := R'.sl.get h0
    exact post ps' G' H' e R'.wd z1 z2 qd
end
end DL

set_option Elab.async false
set_option linter.all false
set_option maxRecDepth 100000
namespace K01
open PySem PySem.Spec PyProof.Rows L2 DL
def top (i : Nat) : Stmt := PySem.Challenge.pw_seatroads_k01_events_known.main.body.getD i (.Pass ⟨0, 0, 0, 0⟩)
def inCls (i j : Nat) : Stmt := match top i with
  | .ClassDef _ _ _ b _ _ _ _ _ _ _ => b.getD j (.Pass ⟨0, 0, 0, 0⟩)
  | _ => .Pass ⟨0, 0, 0, 0⟩
abbrev s_is_list : Stmt := (top 4)
abbrev s_is_name : Stmt := (top 5)
abbrev s_is_whole : Stmt := (top 6)
abbrev s_is_time : Stmt := (top 7)
abbrev s_is_key : Stmt := (top 8)
abbrev s_are_unlike : Stmt := (top 9)
abbrev s_are_wishes : Stmt := (top 13)
abbrev s_is_coming : Stmt := (top 14)
abbrev s_is_event : Stmt := (top 15)
abbrev s_BadRank___init__ : Stmt := (inCls 18 0)
abbrev s_BadKind___init__ : Stmt := (inCls 19 0)
abbrev s_is_rank : Stmt := (top 22)
abbrev s_Office___init__ : Stmt := (inCls 23 0)
abbrev s_Office_kinds : Stmt := (inCls 23 1)
abbrev s_Office_rank : Stmt := (inCls 23 2)
abbrev s_Office___len__ : Stmt := (inCls 23 3)
abbrev s_Office___iter__ : Stmt := (inCls 23 4)
abbrev s_Office___contains__ : Stmt := (inCls 23 5)
abbrev s_Office___eq__ : Stmt := (inCls 23 6)
abbrev s__law_source : Stmt := (top 25)
abbrev s__law_draw : Stmt := (top 26)
abbrev s__law_pick : Stmt := (top 27)
abbrev s__law_same : Stmt := (top 28)
abbrev s__law_some_ranks : Stmt := (top 29)
abbrev s__law_some_wishes : Stmt := (top 30)
abbrev s__law_some_come : Stmt := (top 31)
abbrev s__law_some_event : Stmt := (top 32)
abbrev s__law_some_events : Stmt := (top 33)
abbrev s__law_is_name : Stmt := (top 34)
abbrev s__law_are_wishes : Stmt := (top 35)
abbrev s__law_is_kind : Stmt := (top 36)
abbrev s__law_is_due : Stmt := (top 37)
abbrev s__law_bent : Stmt := (top 38)
abbrev s_law : Stmt := (top 39)
structure TX (K : PySem.W.Frag) (mg : Str → Option Value) : Prop where
  n_TypeError : mg "TypeError" = none
  n_ValueError : mg "ValueError" = none
  n_all : mg "all" = none
  n_bool : mg "bool" = none
  n_dict : mg "dict" = none
  n_enumerate : mg "enumerate" = none
  n_int : mg "int" = none
  n_isinstance : mg "isinstance" = none
  n_len : mg "len" = none
  n_list : mg "list" = none
  n_min : mg "min" = none
  n_range : mg "range" = none
  n_set : mg "set" = none
  n_sorted : mg "sorted" = none
  n_str : mg "str" = none
  n_super : mg "super" = none
  n_tuple : mg "tuple" = none
  n_zip : mg "zip" = none
  g_is_list : mg "is_list" = some (.ref (He.ga K "is_list"))
  g_is_name : mg "is_name" = some (.ref (He.ga K "is_name"))
  g_is_whole : mg "is_whole" = some (.ref (He.ga K "is_whole"))
  g_is_time : mg "is_time" = some (.ref (He.ga K "is_time"))
  g_is_key : mg "is_key" = some (.ref (He.ga K "is_key"))
  g_are_unlike : mg "are_unlike" = some (.ref (He.ga K "are_unlike"))
  g_are_wishes : mg "are_wishes" = some (.ref (He.ga K "are_wishes"))
  g_is_coming : mg "is_coming" = some (.ref (He.ga K "is_coming"))
  g_is_event : mg "is_event" = some (.ref (He.ga K "is_event"))
  g_is_rank : mg "is_rank" = some (.ref (He.ga K "is_rank"))
  g__law_source : mg "_law_source" = some (.ref (He.ga K "_law_source"))
  g__law_draw : mg "_law_draw" = some (.ref (He.ga K "_law_draw"))
  g__law_pick : mg "_law_pick" = some (.ref (He.ga K "_law_pick"))
  g__law_same : mg "_law_same" = some (.ref (He.ga K "_law_same"))
  g__law_some_ranks : mg "_law_some_ranks" = some (.ref (He.ga K "_law_some_ranks"))
  g__law_some_wishes : mg "_law_some_wishes" = some (.ref (He.ga K "_law_some_wishes"))
  g__law_some_come : mg "_law_some_come" = some (.ref (He.ga K "_law_some_come"))
  g__law_some_event : mg "_law_some_event" = some (.ref (He.ga K "_law_some_event"))
  g__law_some_events : mg "_law_some_events" = some (.ref (He.ga K "_law_some_events"))
  g__law_is_name : mg "_law_is_name" = some (.ref (He.ga K "_law_is_name"))
  g__law_are_wishes : mg "_law_are_wishes" = some (.ref (He.ga K "_law_are_wishes"))
  g__law_is_kind : mg "_law_is_kind" = some (.ref (He.ga K "_law_is_kind"))
  g__law_is_due : mg "_law_is_due" = some (.ref (He.ga K "_law_is_due"))
  g__law_bent : mg "_law_bent" = some (.ref (He.ga K "_law_bent"))
  g_law : mg "law" = some (.ref (He.ga K "law"))
  g_OfficeError : mg "OfficeError" = some (.ref (He.ga K "OfficeError"))
  g_BadRank : mg "BadRank" = some (.ref (He.ga K "BadRank"))
  g_BadKind : mg "BadKind" = some (.ref (He.ga K "BadKind"))
  g_Office : mg "Office" = some (.ref (He.ga K "Office"))
  c_SIGNS : ∃ t, mg "SIGNS" = some (.str "abcdefghijklmnopqrstuvwxyz0123456789" t)
  c_LONGEST : ∃ t, mg "LONGEST" = some (.int 8 t)
  c_GREATEST : ∃ t, mg "GREATEST" = some (.int 1000000 t)
  c_SHORT : mg "SHORT" = some (.ref (He.ga K "SHORT"))
  v_SHORT : ∀ H : Hp, SqT K H (He.ga K "SHORT") [.str "gather", .str "round"]
  c_OF_PLACES : mg "OF_PLACES" = some (.ref (He.ga K "OF_PLACES"))
  v_OF_PLACES : ∀ H : Hp, SqT K H (He.ga K "OF_PLACES") [.str "place", .str "withdraw"]
  c_WORDS : mg "WORDS" = some (.ref (He.ga K "WORDS"))
  v_WORDS : ∀ H : Hp, SqT K H (He.ga K "WORDS") [.str "points", .str "few", .str "home", .str "early", .str "late"]
  F_is_list : ∃ fd, FunD K "is_list" "is_list" (defArgs s_is_list) (defBody s_is_list) (defScope s_is_list) [] [] (He.ga K "is_list") fd
  F_is_name : ∃ fd, FunD K "is_name" "is_name" (defArgs s_is_name) (defBody s_is_name) (defScope s_is_name) [] [] (He.ga K "is_name") fd
  F_is_whole : ∃ fd, FunD K "is_whole" "is_whole" (defArgs s_is_whole) (defBody s_is_whole) (defScope s_is_whole) [] [] (He.ga K "is_whole") fd
  F_is_time : ∃ fd, FunD K "is_time" "is_time" (defArgs s_is_time) (defBody s_is_time) (defScope s_is_time) [] [] (He.ga K "is_time") fd
  F_is_key : ∃ fd, FunD K "is_key" "is_key" (defArgs s_is_key) (defBody s_is_key) (defScope s_is_key) [] [] (He.ga K "is_key") fd
  F_are_unlike : ∃ fd, FunD K "are_unlike" "are_unlike" (defArgs s_are_unlike) (defBody s_are_unlike) (defScope s_are_unlike) [] [] (He.ga K "are_unlike") fd
  F_are_wishes : ∃ fd, FunD K "are_wishes" "are_wishes" (defArgs s_are_wishes) (defBody s_are_wishes) (defScope s_are_wishes) [] [] (He.ga K "are_wishes") fd
  F_is_coming : ∃ fd, FunD K "is_coming" "is_coming" (defArgs s_is_coming) (defBody s_is_coming) (defScope s_is_coming) [] [] (He.ga K "is_coming") fd
  F_is_event : ∃ fd, FunD K "is_event" "is_event" (defArgs s_is_event) (defBody s_is_event) (defScope s_is_event) [] [] (He.ga K "is_event") fd
  F_is_rank : ∃ fd, FunD K "is_rank" "is_rank" (defArgs s_is_rank) (defBody s_is_rank) (defScope s_is_rank) [] [] (He.ga K "is_rank") fd
  F__law_source : ∃ fd, FunD K "_law_source" "_law_source" (defArgs s__law_source) (defBody s__law_source) (defScope s__law_source) [] [] (He.ga K "_law_source") fd
  F__law_draw : ∃ fd, FunD K "_law_draw" "_law_draw" (defArgs s__law_draw) (defBody s__law_draw) (defScope s__law_draw) [] [] (He.ga K "_law_draw") fd
  F__law_pick : ∃ fd, FunD K "_law_pick" "_law_pick" (defArgs s__law_pick) (defBody s__law_pick) (defScope s__law_pick) [] [] (He.ga K "_law_pick") fd
  F__law_same : ∃ fd, FunD K "_law_same" "_law_same" (defArgs s__law_same) (defBody s__law_same) (defScope s__law_same) [] [] (He.ga K "_law_same") fd
  F__law_some_ranks : ∃ fd, FunD K "_law_some_ranks" "_law_some_ranks" (defArgs s__law_some_ranks) (defBody s__law_some_ranks) (defScope s__law_some_ranks) [] [] (He.ga K "_law_some_ranks") fd
  F__law_some_wishes : ∃ fd, FunD K "_law_some_wishes" "_law_some_wishes" (defArgs s__law_some_wishes) (defBody s__law_some_wishes) (defScope s__law_some_wishes) [] [] (He.ga K "_law_some_wishes") fd
  F__law_some_come : ∃ fd, FunD K "_law_some_come" "_law_some_come" (defArgs s__law_some_come) (defBody s__law_some_come) (defScope s__law_some_come) [] [] (He.ga K "_law_some_come") fd
  F__law_some_event : ∃ fd, FunD K "_law_some_event" "_law_some_event" (defArgs s__law_some_event) (defBody s__law_some_event) (defScope s__law_some_event) [] [] (He.ga K "_law_some_event") fd
  F__law_some_events : ∃ fd, FunD K "_law_some_events" "_law_some_events" (defArgs s__law_some_events) (defBody s__law_some_events) (defScope s__law_some_events) [] [] (He.ga K "_law_some_events") fd
  F__law_is_name : ∃ fd, FunD K "_law_is_name" "_law_is_name" (defArgs s__law_is_name) (defBody s__law_is_name) (defScope s__law_is_name) [] [] (He.ga K "_law_is_name") fd
  F__law_are_wishes : ∃ fd, FunD K "_law_are_wishes" "_law_are_wishes" (defArgs s__law_are_wishes) (defBody s__law_are_wishes) (defScope s__law_are_wishes) [] [] (He.ga K "_law_are_wishes") fd
  F__law_is_kind : ∃ fd, FunD K "_law_is_kind" "_law_is_kind" (defArgs s__law_is_kind) (defBody s__law_is_kind) (defScope s__law_is_kind) [] [] (He.ga K "_law_is_kind") fd
  F__law_is_due : ∃ fd, FunD K "_law_is_due" "_law_is_due" (defArgs s__law_is_due) (defBody s__law_is_due) (defScope s__law_is_due) [] [] (He.ga K "_law_is_due") fd
  F__law_bent : ∃ fd, FunD K "_law_bent" "_law_bent" (defArgs s__law_bent) (defBody s__law_bent) (defScope s__law_bent) [] [] (He.ga K "_law_bent") fd
  F_law : ∃ fd, FunD K "law" "law" (defArgs s_law) (defBody s_law) (defScope s_law) [] [] (He.ga K "law") fd
/-! ### data that the law hands about -/
inductive Ok : D → Prop
  | non : Ok .non
  | bl (b : Bool) : Ok (.bl b)
  | int (i : Int) : Ok (.int i)
  | str {x : Str} : x.length ≤ 1000 → Ok (.str x)
  | lst {xs : List D} : xs.length ≤ 1000 → (∀ x ∈ xs, Ok x) → Ok (.lst xs)
  | tup {xs : List D} : xs.length ≤ 1000 → (∀ x ∈ xs, Ok x) → Ok (.tup xs)
  | dk {kvs : List (Key × D)} : kvs.length ≤ 1000 → Ok (.dk kvs)
theorem Ok.plain {d : D} (h : Ok d) : d.plain = true := by cases h <;> rfl
def isListD (d : D) : Bool := tyIs d.ty "list" || tyIs d.ty "tuple"
def signs : Str := "abcdefghijklmnopqrstuvwxyz0123456789"
def isNameS (x : Str) : Bool := decide ((1 : Int) ≤ x.length) && (decide ((x.length : Int) ≤ 8) && x.cps.toList.all fun c => decide (c ∈ signs.cps.toList))
def isNameD : D → Bool
  | .str x => isNameS x
  | _ => false
def isWholeD : D → Bool
  | .int _ => true
  | _ => false
def isTimeD : D → Bool
  | .int i => decide (0 ≤ i) && decide (i ≤ 1000000)
  | _ => false
section
variable {P : Program} {w : World} {K : PySem.W.Frag} {mg : Str → Option Value} {base : Heap}
abbrev N_is_list : List Str := ["thing"]
theorem S_is_list : FnScope N_is_list ["thing"] (defScope s_is_list) := ⟨rfl, rfl, rfl, by decide +kernel, rfl, by decide +kernel, by decide +kernel⟩
def T1 (f : D → Bool) : List D → (D → Prop) → Prop := fun ds Q => ∃ d, ds = [d] ∧ Ok d ∧ Q (.bl (f d))
theorem ok_is_list (T : TX K mg) : FnB P w K mg base 1 "is_list" ["thing"] (spP K (T1 isListD)) := by
  obtain ⟨fd, F⟩ := T.F_is_list
  refine fn_P (k := 0) F T.g_is_list (fun _ _ _ _ _ _ us hl => match us, hl with | [_], _ => rfl) S_is_list (fun ds Qd h => by obtain ⟨d, rfl, _⟩ := h; rfl) fun cdv A outer s H E hr => ⟨_, (pss_one (ps_ret (pe_callB (kisiT (K := K) rfl) (by rfl) T.n_isinstance (by decide +kernel) (pa_cons (pv 0) (pa_cons (pe_tup (pa_cons (pe_bltn (v := .ty "list") (by rfl) T.n_list (by decide +kernel) rfl) (pa_cons (pe_bltn (v := .ty "tuple") (by rfl) T.n_tuple (by decide +kernel) rfl) pa_nil))) pa_nil))))), fun ds Qd h => ?_⟩
  obtain ⟨d, rfl, hd, q⟩ := h
  exact ws_ret (ew_isi2 (by decide) (by decide) (ew_var rfl ⟨hd.plain, q⟩))
abbrev N_is_whole : List Str := ["thing"]
theorem S_is_whole : FnScope N_is_whole ["thing"] (defScope s_is_whole) := ⟨rfl, rfl, rfl, by decide +kernel, rfl, by decide +kernel, by decide +kernel⟩
theorem ok_is_whole (T : TX K mg) : FnB P w K mg base 1 "is_whole" ["thing"] (spP K (T1 isWholeD)) := by
  obtain ⟨fd, F⟩ := T.F_is_whole
  refine fn_P (k := 0) F T.g_is_whole (fun _ _ _ _ _ _ us hl => match us, hl with | [_], _ => rfl) S_is_whole (fun ds Qd h => by obtain ⟨d, rfl, _⟩ := h; rfl) fun cdv A outer s H E hr => ⟨_, (pss_one (ps_ret (pe_and (pe_callB (kisi (K := K) rfl) (by rfl) T.n_isinstance (by decide +kernel) (pa_cons (pv 0) (pa_cons (pe_bltn (v := .ty "int") (by rfl) T.n_int (by decide +kernel) rfl) pa_nil))) (pe_one (pe_not (pe_callB (kisi (K := K) rfl) (by rfl) T.n_isinstance (by decide +kernel) (pa_cons (pv 0) (pa_cons (pe_bltn (v := .ty "bool") (by rfl) T.n_bool (by decide +kernel) rfl) pa_nil)))))))), fun ds Qd h => ?_⟩
  obtain ⟨d, rfl, hd, q⟩ := h
  refine ws_ret (ew_andV (ew_isi (by decide) (ew_var rfl ⟨hd.plain, _, rfl, ?_⟩)))
  cases hd with
  | int i => exact iteT (ew_notV (ew_isi (by decide) (ew_var rfl ⟨rfl, _, rfl, q⟩)))
  | bl b => exact iteT (ew_notV (ew_isi (by decide) (ew_var rfl ⟨rfl, _, rfl, q⟩)))
  | _ => exact iteF q
end
end K01

set_option Elab.async false
set_option linter.all false
set_option maxRecDepth 100000
namespace K01
open PySem PySem.Spec PyProof.Rows L2 DL
def isKeyD (ps : List (Key × D)) : D → Bool
  | .str x => (dget ps (.inr x)).isSome
  | _ => false
def toStr : D → Str
  | .str x => x
  | _ => Str.empty
def off (ps : List (Key × D)) : D := .ins "Office" [("rows", .dk ps)]
def areWishesD (ps : List (Key × D)) (d : D) : Bool := match d.seq with
  | some xs => xs.all (isKeyD ps) && decide (xs.map toStr).Nodup
  | none => false
theorem Ok.seq {d : D} {xs : List D} (h : Ok d) (e : d.seq = some xs) : xs.length ≤ 1000 ∧ ∀ x ∈ xs, Ok x := by
  cases h with
  | lst a b => cases e; exact ⟨a, b⟩
  | tup a b => cases e; exact ⟨a, b⟩
  | _ => cases e
theorem seq_isList {d : D} (h : d.seq = none) : isListD d = false := by
  cases d <;> first | rfl | cases h
theorem seq_isList' {d : D} {xs : List D} (h : d.seq = some xs) : isListD d = true := by
  cases d <;> first | rfl | cases h
theorem cut_to (ds : List D) (i : Nat) : cutDD ds none (some (i : Int)) = ds.take i := by
  unfold cutDD
  rw [HT.sIx_none, HT.sIx_nat, List.drop_zero, Nat.sub_zero]
  rw [List.take_eq_take_iff]
  omega
theorem cut_from1 (ds : List D) : cutDD ds (some 1) none = ds.drop 1 := by
  unfold cutDD
  rw [HT.sIx_none, show HT.sIx ds.length 0 (some 1) = min 1 ds.length from HT.sIx_nat ds.length 0 1]
  cases ds with
  | nil => rfl
  | cons x r =>
    rw [show min 1 (x :: r).length = 1 by rw [List.length_cons]; omega]
    exact List.take_of_length_le (by simp)
theorem nodup_take : ∀ (xs : List Str) (pre : List Str), ((List.range xs.length).all fun i => match xs[i]? with
    | some x => !decide (x ∈ pre ++ xs.take i)
    | none => true) = decide (xs.Nodup ∧ ∀ x ∈ xs, x ∉ pre)
  | [], pre => by simp
  | x :: xs, pre => by
    rw [List.length_cons, List.range_succ_eq_map, List.all_cons, List.all_map]
    have ih := nodup_take xs (pre ++ [x])
    have e : (List.range xs.length).all ((fun i => match (x :: xs)[i]? with
        | some y => !decide (y ∈ pre ++ (x :: xs).take i)
        | none => true) ∘ Nat.succ) = (List.range xs.length).all fun i => match xs[i]? with
        | some y => !decide (y ∈ (pre ++ [x]) ++ xs.take i)
        | none => true := by
      congr 1
      funext i
      simp only [Function.comp, List.getElem?_cons_succ, List.take_succ_cons, List.append_assoc, List.singleton_append]
      cases xs[i]? <;> rfl
    rw [e, ih]
    simp only [List.getElem?_cons_zero, List.take_zero, List.append_nil, List.nodup_cons, List.mem_cons, List.mem_append, List.not_mem_nil, or_false, forall_eq_or_imp]
    rw [Bool.eq_iff_iff]
    simp only [Bool.and_eq_true, Bool.not_eq_true', decide_eq_false_iff_not, decide_eq_true_eq, not_or]
    constructor
    · rintro ⟨h1, h2, h3⟩
      exact ⟨⟨fun m => (h3 x m).2 rfl, h2⟩, h1, fun y m => (h3 y m).1⟩
    · rintro ⟨⟨h1, h2⟩, h3, h4⟩
      exact ⟨h3, h2, fun y m => ⟨h4 y m, fun z => h1 (z ▸ m)⟩⟩
theorem strs_of_keys {ps : List (Key × D)} : ∀ {xs : List D}, xs.all (isKeyD ps) = true → xs = strsD (xs.map toStr)
  | [], _ => rfl
  | x :: xs, h => by
    rw [List.all_cons, Bool.and_eq_true] at h
    have ih := strs_of_keys h.2
    cases x with
    | str s =>
      show D.str s :: xs = D.str s :: strsD (xs.map toStr)
      rw [← ih]
    | _ => cases h.1
section
variable {P : Program} {w : World} {K : PySem.W.Frag} {mg : Str → Option Value} {base : Heap}
/-- what is known of the office's class -/
structure OF (K : PySem.W.Frag) : Prop where
  cl : Cls K (He.ga K "Office")
  na : NoAttr K (He.ga K "Office") "rows"
abbrev N_is_name : List Str := ["thing", "sign"]
theorem S_is_name : FnScope N_is_name ["thing"] (defScope s_is_name) := ⟨rfl, rfl, rfl, by decide +kernel, rfl, by decide +kernel, by decide +kernel⟩
theorem ok_is_name (T : TX K mg) : FnB P w K mg base 1 "is_name" ["thing"] (spP K (T1 isNameD)) := by
  obtain ⟨fd, F⟩ := T.F_is_name
  refine fn_P (k := 0) F T.g_is_name (fun _ _ _ _ _ _ us hl => match us, hl with | [_], _ => rfl) S_is_name (fun ds Qd h => by obtain ⟨d, rfl, _⟩ := h; rfl) fun cdv A outer s H E hr => ⟨_, (pss_one (ps_ret (pe_and (pe_callB (kisi (K := K) rfl) (by rfl) T.n_isinstance (by decide +kernel) (pa_cons (pv 0) (pa_cons (pe_bltn (v := .ty "str") (by rfl) T.n_str (by decide +kernel) rfl) pa_nil))) (pe_and (pe_chain op_le op_le pe_int (pe_callB (klen (K := K) rfl) (by rfl) T.n_len (by decide +kernel) (pa_cons (pv 0) pa_nil)) (pe_glob (v := .int 8) (by rfl) T.c_LONGEST.choose_spec ⟨_, rfl⟩)) (pe_one (pe_callB (kall rfl (K := K) rfl) (by rfl) T.n_all (by decide +kernel) (pa_cons (pe_lc (own := [("sign", 1)]) rfl S_is_name.nd (pi_str (pv 0)) (blkOk_by (own := [("sign", 1)]) (N := N_is_name) (sc := defScope s_is_name) (by decide +kernel)) (fun _ _ _ _ _ => (pg_name (i := 1) S_is_name.nd rfl (by first | exact .inl rfl | exact .inr rfl))) (fun _ _ _ _ _ => pts_nil) (fun _ _ _ _ _ => (pe_cmpR op_in_sign (pv 1) (pe_glob (v := .str "abcdefghijklmnopqrstuvwxyz0123456789") (by rfl) T.c_SIGNS.choose_spec ⟨_, rfl⟩) (by rfl)))) pa_nil))))))), fun ds Qd h => ?_⟩
  obtain ⟨d, rfl, hd, q⟩ := h
  refine ws_ret (ew_andV (ew_isi (by decide) (ew_var rfl ⟨hd.plain, _, rfl, ?_⟩)))
  cases hd with
  | @str x hx =>
    refine iteT (ew_andV (ew_chain (ew_int (ew_cb (ea_cons (ew_var rfl (ea_nil (opa_len_str (by omega) (op2_cmp ⟨_, rfl, ?_⟩)))))))))
    have q : Qd (.bl (decide ((1 : Int) ≤ x.length) && (decide ((x.length : Int) ≤ 8) && x.cps.toList.all fun c => decide (c ∈ signs.cps.toList)))) := q
    cases e1 : decide ((1 : Int) ≤ x.length) with
    | false =>
      rw [e1] at q
      exact iteF ⟨_, rfl, iteF q⟩
    | true =>
      rw [e1] at q
      refine iteT (ew_int (op2_cmp ⟨_, rfl, ?_⟩))
      cases e2 : decide ((x.length : Int) ≤ 8) with
      | false =>
        rw [e2] at q
        exact iteF q
      | true =>
        rw [e2] at q
        refine iteT (ew_cb (ea_cons (ew_new (en_lcB (f := fun d => match d with | .str z => decide (z.cps.toList.head?.getD 0 ∈ signs.cps.toList) | _ => false) (ei_str (ew_var rfl ⟨x, rfl, rfl, ?_, ?_, ea_nil ?_⟩))))))
        · rw [List.length_map]
          have : x.cps.toList.length = x.length := by simp [Str.length]
          omega
        · intro i d hd
          rw [List.getElem?_map] at hd
          obtain ⟨c, _, rfl⟩ := Option.map_eq_some_iff.mp hd
          refine gv_name (by decide) (ew_op (ew_var rfl (ew_str (op2_sign ⟨rfl, ?_⟩))))
          rfl
        · refine opa_all ?_
          rw [List.all_map, List.all_map]
          exact q
  | _ => exact iteF q
abbrev N_is_time : List Str := ["thing"]
theorem S_is_time : FnScope N_is_time ["thing"] (defScope s_is_time) := ⟨rfl, rfl, rfl, by decide +kernel, rfl, by decide +kernel, by decide +kernel⟩
theorem ok_is_time (T : TX K mg) : FnB P w K mg base 2 "is_time" ["thing"] (spP K (T1 isTimeD)) := by
  obtain ⟨fd, F⟩ := T.F_is_time
  have G_is_whole := ok_is_whole (P := P) (w := w) (base := base) T
  refine fn_P (k := 1) F T.g_is_time (fun _ _ _ _ _ _ us hl => match us, hl with | [_], _ => rfl) S_is_time (fun ds Qd h => by obtain ⟨d, rfl, _⟩ := h; rfl) fun cdv A outer s H E hr => ⟨_, (pss_one (ps_ret (pe_and (pe_callF G_is_whole (hr.mono (by decide)) (pa_cons (pv 0) pa_nil)) (pe_one (pe_chain op_le op_le pe_int (pv 0) (pe_glob (v := .int 1000000) (by rfl) T.c_GREATEST.choose_spec ⟨_, rfl⟩)))))), fun ds Qd h => ?_⟩
  obtain ⟨d, rfl, hd, q⟩ := h
  refine ws_ret (ew_andV (ew_callP (ea_cons (ew_var rfl (ea_nil ⟨d, rfl, hd, _, rfl, ?_⟩)))))
  cases hd with
  | int i =>
    refine iteT (ew_chain (ew_int (ew_var rfl (op2_cmp ⟨_, rfl, ?_⟩))))
    have q : Qd (.bl (decide (0 ≤ i) && decide (i ≤ 1000000))) := q
    cases e1 : decide (0 ≤ i) with
    | false => rw [e1] at q; exact iteF q
    | true => rw [e1] at q; exact iteT (ew_int (op2_cmp q))
  | _ => exact iteF q
abbrev N_is_key : List Str := ["rows", "thing"]
theorem S_is_key : FnScope N_is_key ["rows", "thing"] (defScope s_is_key) := ⟨rfl, rfl, rfl, by decide +kernel, rfl, by decide +kernel, by decide +kernel⟩
def TKey : List D → (D → Prop) → Prop := fun ds Q => ∃ ps d, ds = [.dk ps, d] ∧ Ok d ∧ Q (.bl (isKeyD ps d))
theorem ok_is_key (T : TX K mg) : FnB P w K mg base 1 "is_key" ["rows", "thing"] (spP K TKey) := by
  obtain ⟨fd, F⟩ := T.F_is_key
  refine fn_P (k := 0) F T.g_is_key (fun _ _ _ _ _ _ us hl => match us, hl with | [_, _], _ => rfl) S_is_key (fun ds Qd h => by obtain ⟨ps, d, rfl, _⟩ := h; rfl) fun cdv A outer s H E hr => ⟨_, (pss_one (ps_ret (pe_and (pe_callB (kisi (K := K) rfl) (by rfl) T.n_isinstance (by decide +kernel) (pa_cons (pv 1) (pa_cons (pe_bltn (v := .ty "str") (by rfl) T.n_str (by decide +kernel) rfl) pa_nil))) (pe_one (pe_cmp (pc_din (hu_of hr) (pv 1) (pv 0)) (by rfl)))))), fun ds Qd h => ?_⟩
  obtain ⟨ps, d, rfl, hd, q⟩ := h
  refine ws_ret (ew_andV (ew_isi (by decide) (ew_var rfl ⟨hd.plain, _, rfl, ?_⟩)))
  cases hd with
  | @str x hx => exact iteT (ew_din (ew_var rfl (ew_var rfl ⟨.inr x, ps, rfl, rfl, q⟩)))
  | _ => exact iteF q
abbrev N_are_unlike : List Str := ["things", "at", "thing"]
theorem S_are_unlike : FnScope N_are_unlike ["things"] (defScope s_are_unlike) := ⟨rfl, rfl, rfl, by decide +kernel, rfl, by decide +kernel, by decide +kernel⟩
def TUn : List D → (D → Prop) → Prop := fun ds Q => ∃ d xs, ds = [d] ∧ d.seq = some (strsD xs) ∧ xs.length ≤ 1000 ∧ Q (.bl (decide xs.Nodup))
theorem ok_are_unlike (T : TX K mg) : FnB P w K mg base 1 "are_unlike" ["things"] (spP K TUn) := by
  obtain ⟨fd, F⟩ := T.F_are_unlike
  refine fn_P (k := 0) F T.g_are_unlike (fun _ _ _ _ _ _ us hl => match us, hl with | [_], _ => rfl) S_are_unlike (fun ds Qd h => by obtain ⟨d, xs, rfl, _⟩ := h; rfl) fun cdv A outer s H E hr => ⟨_, (pss_one (ps_ret (pe_callB (kall rfl (K := K) rfl) (by rfl) T.n_all (by decide +kernel) (pa_cons (pe_lc (own := [("at", 1), ("thing", 2)]) rfl S_are_unlike.nd (kenum (K := K) rfl (by rfl) T.n_enumerate (pa_cons (pv 0) pa_nil)) (blkOk_by (own := [("at", 1), ("thing", 2)]) (N := N_are_unlike) (sc := defScope s_are_unlike) (by decide +kernel)) (fun _ _ _ _ _ => (kgt (K := K) (n := 2) rfl rfl (pgs_cons (pg_name (i := 1) S_are_unlike.nd rfl (by first | exact .inl rfl | exact .inr rfl)) (pgs_cons (pg_name (i := 2) S_are_unlike.nd rfl (by first | exact .inl rfl | exact .inr rfl)) pgs_nil)))) (fun _ _ _ _ _ => pts_nil) (fun _ _ _ _ _ => (pe_cmpR (knotin (K := K) rfl) (pv 2) (pe_slice (ksl (K := K) rfl) (pv 0) po_none (po_some (pv 1))) (by rfl)))) pa_nil)))), fun ds Qd h => ?_⟩
  obtain ⟨d, xs, rfl, hd, hl, q⟩ := h
  refine ws_ret (ew_cb (ea_cons (ew_new (en_lcB (f := fun d => match d with | .tup [.int i, .str x] => !decide (x ∈ xs.take i.toNat) | _ => false) (ei_enum d hd (ea_cons (ew_var rfl (ea_nil ⟨rfl, rfl, ?_, fun i y hy => ?_, ea_nil ?_⟩))))))))
  · rw [enumD_len, strsD, List.length_map]; omega
  · have hlt := (List.getElem?_eq_some_iff.mp hy).1
    rw [enumD_len, strsD, List.length_map] at hlt
    have e := enumD_at (ds := strsD xs) (i := i) (d := .str xs[i]) (by rw [strsD, List.getElem?_map, List.getElem?_eq_getElem hlt]; rfl)
    rw [hy] at e
    cases e
    refine gv_tup rfl (gvs_cons (gv_name (by decide) (gvs_cons (gv_name (by decide) (gvs_nil ?_)))))
    refine ew_op (ew_var rfl (ew_slU d hd (ew_var rfl ⟨rfl, eo_none (eo_some (ew_var rfl ⟨_, rfl, fun y hy => ?_⟩))⟩)))
    refine op2_in (ys := xs.take i) (by rw [hy, cut_to, strsD, strsD, List.map_take]) ⟨rfl, ?_⟩
    rfl
  · refine opa_all ?_
    have e : ((enumD (strsD xs)).map fun d => match d with | .tup [.int i, .str x] => !decide (x ∈ xs.take i.toNat) | _ => false).all id = decide xs.Nodup := by
      have h0 := nodup_take xs []
      simp only [List.nil_append, List.not_mem_nil, not_false_eq_true, implies_true, and_true] at h0
      rw [← h0, List.all_map]
      rw [Bool.eq_iff_iff, List.all_eq_true, List.all_eq_true]
      constructor
      · intro h i hi
        rw [List.mem_range] at hi
        rw [List.getElem?_eq_getElem hi]
        have e := enumD_at (ds := strsD xs) (i := i) (d := .str xs[i]) (by rw [strsD, List.getElem?_map, List.getElem?_eq_getElem hi]; rfl)
        exact h _ (List.mem_of_getElem? e)
      · intro h y hy
        obtain ⟨i, hi⟩ := List.mem_iff_getElem?.mp hy
        have hlt := (List.getElem?_eq_some_iff.mp hi).1
        rw [enumD_len, strsD, List.length_map] at hlt
        have e := enumD_at (ds := strsD xs) (i := i) (d := .str xs[i]) (by rw [strsD, List.getElem?_map, List.getElem?_eq_getElem hlt]; rfl)
        rw [hi] at e
        cases e
        have := h i (List.mem_range.mpr hlt)
        rw [List.getElem?_eq_getElem hlt] at this
        exact this
    rw [e]; exact q
end
end K01

set_option Elab.async false
set_option linter.all false
set_option maxRecDepth 100000
namespace K01
open PySem PySem.Spec PyProof.Rows L2 DL
def comingD (ps : List (Key × D)) (n ws p h : D) : Bool := isNameD n && areWishesD ps ws && isTimeD p && (h.isNon || isKeyD ps h)
def on1 (f : D → Bool) : List D → Bool
  | [k] => f k
  | _ => false
def on2 (f : D → D → Bool) : List D → Bool
  | [k, l] => f k l
  | _ => false
def on4 (f : D → D → D → D → Bool) : List D → Bool
  | [k, l, m, n] => f k l m n
  | _ => false
def evRest (ps : List (Key × D)) (x : Str) (rest : List D) : Bool :=
  if decide (x ∈ (["gather", "round"] : List Str)) = true then decide (rest.length = 0)
  else if decide (x = "leave") = true then on1 isNameD rest
  else if decide (x ∈ (["place", "withdraw"] : List Str)) = true then on1 (isKeyD ps) rest
  else if decide (x = "change") = true then on2 (fun n ws => isNameD n && areWishesD ps ws) rest
  else if decide (x = "come") = true then on4 (comingD ps) rest
  else false
def isEventD (ps : List (Key × D)) (d : D) : Bool := match d.seq with
  | some (.str x :: rest) => evRest ps x rest
  | _ => false
theorem ite_b {b : Bool} {A B : Prop} (h1 : b = true → A) (h2 : b = false → B) : if b = true then A else B := by
  cases b with
  | true => exact iteT (h1 rfl)
  | false => exact iteF (h2 rfl)
theorem Ok.mem {d : D} {xs : List D} (h : Ok d) (e : d.seq = some xs) {i : Nat} {x : D} (hx : xs[i]? = some x) : Ok x := (h.seq e).2 x (List.mem_of_getElem? hx)
section
variable {P : Program} {w : World} {K : PySem.W.Frag} {mg : Str → Option Value} {base : Heap}
abbrev N_are_wishes : List Str := ["office", "thing", "kind"]
theorem S_are_wishes : FnScope N_are_wishes ["office", "thing"] (defScope s_are_wishes) := ⟨rfl, rfl, rfl, by decide +kernel, rfl, by decide +kernel, by decide +kernel⟩
def TWish : List D → (D → Prop) → Prop := fun ds Q => ∃ ps d, ds = [off ps, d] ∧ Ok d ∧ Q (.bl (areWishesD ps d))
theorem ok_are_wishes (T : TX K mg) (O : OF K) : FnB P w K mg base 2 "are_wishes" ["office", "thing"] (spP K TWish) := by
  obtain ⟨fd, F⟩ := T.F_are_wishes
  have G_is_list := ok_is_list (P := P) (w := w) (base := base) T
  have G_is_key := ok_is_key (P := P) (w := w) (base := base) T
  have G_are_unlike := ok_are_unlike (P := P) (w := w) (base := base) T
  refine fn_P (k := 1) F T.g_are_wishes (fun _ _ _ _ _ _ us hl => match us, hl with | [_, _], _ => rfl) S_are_wishes (fun ds Qd h => by obtain ⟨ps, d, rfl, _⟩ := h; rfl) fun cdv A outer s H E hr => ⟨_, (pss_one (ps_ret (pe_and (pe_callF G_is_list (hr.mono (by decide)) (pa_cons (pv 1) pa_nil)) (pe_and (pe_callB (kall rfl (K := K) rfl) (by rfl) T.n_all (by decide +kernel) (pa_cons (pe_lc (own := [("kind", 2)]) rfl S_are_wishes.nd (kwU (K := K) rfl (pv 1)) (blkOk_by (own := [("kind", 2)]) (N := N_are_wishes) (sc := defScope s_are_wishes) (by decide +kernel)) (fun _ _ _ _ _ => (pg_name (i := 2) S_are_wishes.nd rfl (by first | exact .inl rfl | exact .inr rfl))) (fun _ _ _ _ _ => pts_nil) (fun _ _ _ _ _ => (pe_callF G_is_key (hr.mono (by decide)) (pa_cons (kfld (K := K) rfl (pv 0) rfl) (pa_cons (pv 2) pa_nil))))) pa_nil)) (pe_one (pe_callF G_are_unlike (hr.mono (by decide)) (pa_cons (pv 1) pa_nil))))))), fun ds Qd h => ?_⟩
  obtain ⟨ps, d, rfl, hd, q⟩ := h
  refine ws_ret (ew_andV (ew_callP (ea_cons (ew_var rfl (ea_nil ⟨d, rfl, hd, _, rfl, ?_⟩)))))
  cases e : d.seq with
  | none =>
    rw [seq_isList e]
    unfold areWishesD at q
    rw [e] at q
    exact iteF q
  | some xs =>
    rw [seq_isList' e]
    unfold areWishesD at q
    rw [e] at q
    have q : Qd (.bl (xs.all (isKeyD ps) && decide (xs.map toStr).Nodup)) := q
    refine iteT (ew_andV (ew_cb (ea_cons (ew_new (en_lcB (f := isKeyD ps) (ei_seq d e (ew_var rfl ⟨rfl, rfl, by have := (hd.seq e).1; omega, fun i y hy => ?_, ea_nil (opa_all ⟨_, rfl, ?_⟩)⟩)))))))
    · refine gv_name (by decide) (ew_callP (ea_cons (ew_fld (ew_var rfl ⟨"Office", _, _, rfl, O.cl, O.na, rfl, ea_cons (ew_var rfl (ea_nil ⟨ps, y, rfl, hd.mem e hy, rfl, rfl⟩))⟩))))
    · rw [List.all_map]
      have e1 : xs.all (id ∘ isKeyD ps) = xs.all (isKeyD ps) := rfl
      rw [e1]
      cases e2 : xs.all (isKeyD ps) with
      | false => rw [e2] at q; exact iteF q
      | true =>
        rw [e2] at q
        refine iteT (ew_callP (ea_cons (ew_var rfl (ea_nil ⟨d, xs.map toStr, rfl, by rw [e, ← strs_of_keys e2], by have := (hd.seq e).1; simpa using this, q⟩))))
abbrev N_is_coming : List Str := ["office", "rest", "name", "wishes", "points", "home"]
theorem S_is_coming : FnScope N_is_coming ["office", "rest"] (defScope s_is_coming) := ⟨rfl, rfl, rfl, by decide +kernel, rfl, by decide +kernel, by decide +kernel⟩
def TCom : List D → (D → Prop) → Prop := fun ds Q => ∃ ps d n ws p h, ds = [off ps, d] ∧ Ok d ∧ d.seq = some [n, ws, p, h] ∧ Q (.bl (comingD ps n ws p h))
theorem ok_is_coming (T : TX K mg) (O : OF K) : FnB P w K mg base 3 "is_coming" ["office", "rest"] (spP K TCom) := by
  obtain ⟨fd, F⟩ := T.F_is_coming
  have G_is_name := ok_is_name (P := P) (w := w) (base := base) T
  have G_is_time := ok_is_time (P := P) (w := w) (base := base) T
  have G_is_key := ok_is_key (P := P) (w := w) (base := base) T
  have G_are_wishes := ok_are_wishes (P := P) (w := w) (base := base) T O
  refine fn_P (k := 2) F T.g_is_coming (fun _ _ _ _ _ _ us hl => match us, hl with | [_, _], _ => rfl) S_is_coming (fun ds Qd h => by obtain ⟨ps, d, _, _, _, _, rfl, _⟩ := h; rfl) fun cdv A outer s H E hr => ⟨_, (pss_cons (ps_asg (pv 1) (pg_or (kgt (K := K) (n := 4) rfl rfl (pgs_cons (pg_name (i := 2) S_is_coming.nd rfl (by first | exact .inl rfl | exact .inr rfl)) (pgs_cons (pg_name (i := 3) S_is_coming.nd rfl (by first | exact .inl rfl | exact .inr rfl)) (pgs_cons (pg_name (i := 4) S_is_coming.nd rfl (by first | exact .inl rfl | exact .inr rfl)) (pgs_cons (pg_name (i := 5) S_is_coming.nd rfl (by first | exact .inl rfl | exact .inr rfl)) pgs_nil))))) (kgu (K := K) (n := 4) rfl rfl (pgs_cons (pg_name (i := 2) S_is_coming.nd rfl (by first | exact .inl rfl | exact .inr rfl)) (pgs_cons (pg_name (i := 3) S_is_coming.nd rfl (by first | exact .inl rfl | exact .inr rfl)) (pgs_cons (pg_name (i := 4) S_is_coming.nd rfl (by first | exact .inl rfl | exact .inr rfl)) (pgs_cons (pg_name (i := 5) S_is_coming.nd rfl (by first | exact .inl rfl | exact .inr rfl)) pgs_nil)))))))
      (pss_cons (ps_if (PW.pt (pw_or (pt_not (pt_val (pe_callF G_is_name (hr.mono (by decide)) (pa_cons (pv 2) pa_nil)))) (pw_or (pt_not (pt_val (pe_callF G_are_wishes (hr.mono (by decide)) (pa_cons (pv 0) (pa_cons (pv 3) pa_nil))))) (pw_or1 (pt_not (pt_val (pe_callF G_is_time (hr.mono (by decide)) (pa_cons (pv 4) pa_nil)))))))) (pss_one (ps_ret pe_bl)) pss_nil)
      (pss_one (ps_ret (pe_or (pe_cmpR op_isN (pv 5) pe_non (nomark _)) (pe_one (pe_callF G_is_key (hr.mono (by decide)) (pa_cons (kfld (K := K) rfl (pv 0) rfl) (pa_cons (pv 5) pa_nil))))))))), fun ds Qd h => ?_⟩
  obtain ⟨ps, d, n, ws, p, h, rfl, hd, e, q⟩ := h
  have okn : Ok n := hd.mem e (i := 0) rfl
  have okw : Ok ws := hd.mem e (i := 1) rfl
  have okp : Ok p := hd.mem e (i := 2) rfl
  have okh : Ok h := hd.mem e (i := 3) rfl
  have q : Qd (.bl (isNameD n && areWishesD ps ws && isTimeD p && (h.isNon || isKeyD ps h))) := q
  refine ws_seq (ws_asg (ew_var rfl (gw_seq e rfl ?_ ?_)))
  all_goals refine gws_cons (gw_name (gws_cons (gw_name (gws_cons (gw_name (gws_cons (gw_name (gws_nil ?_))))))))
  all_goals
    refine ws_seq (ws_if (et_or (et_not (et_B (ew_callP (ea_cons (ew_var rfl (ea_nil ⟨n, rfl, okn, _, rfl, ?_⟩)))))))) 
    cases e1 : isNameD n with
    | false => rw [e1] at q; exact iteT (iteT (ws_ret (ew_bl q)))
    | true =>
      rw [e1] at q
      refine iteF (et_or (et_not (et_B (ew_callP (ea_cons (ew_var rfl (ea_cons (ew_var rfl (ea_nil ⟨ps, ws, rfl, okw, _, rfl, ?_⟩)))))))))
      cases e2 : areWishesD ps ws with
      | false => rw [e2] at q; exact iteT (iteT (ws_ret (ew_bl q)))
      | true =>
        rw [e2] at q
        refine iteF (et_not (et_B (ew_callP (ea_cons (ew_var rfl (ea_nil ⟨p, rfl, okp, _, rfl, ?_⟩))))))
        cases e3 : isTimeD p with
        | false => rw [e3] at q; exact iteT (ws_ret (ew_bl q))
        | true =>
          rw [e3] at q
          refine iteF (ws_next (ws_ret (ew_orV (ew_op (ew_var rfl (ew_non (op2_isN ⟨_, rfl, ?_⟩)))))))
          cases e4 : h.isNon with
          | true => rw [e4] at q; exact iteT q
          | false =>
            rw [e4] at q
            exact iteF (ew_callP (ea_cons (ew_fld (ew_var rfl ⟨"Office", _, _, rfl, O.cl, O.na, rfl, ea_cons (ew_var rfl (ea_nil ⟨ps, h, rfl, okh, q⟩))⟩))))
abbrev N_is_event : List Str := ["office", "thing", "word", "rest"]
theorem S_is_event : FnScope N_is_event ["office", "thing"] (defScope s_is_event) := ⟨rfl, rfl, rfl, by decide +kernel, rfl, by decide +kernel, by decide +kernel⟩
def TEv : List D → (D → Prop) → Prop := fun ds Q => ∃ ps d, ds = [off ps, d] ∧ Ok d ∧ Q (.bl (isEventD ps d))
theorem ok_is_event (T : TX K mg) (O : OF K) : FnB P w K mg base 4 "is_event" ["office", "thing"] (spP K TEv) := by
  obtain ⟨fd, F⟩ := T.F_is_event
  have G_is_list := ok_is_list (P := P) (w := w) (base := base) T
  have G_is_name := ok_is_name (P := P) (w := w) (base := base) T
  have G_is_key := ok_is_key (P := P) (w := w) (base := base) T
  have G_are_wishes := ok_are_wishes (P := P) (w := w) (base := base) T O
  have G_is_coming := ok_is_coming (P := P) (w := w) (base := base) T O
  refine fn_P (k := 3) F T.g_is_event (fun _ _ _ _ _ _ us hl => match us, hl with | [_, _], _ => rfl) S_is_event (fun ds Qd h => by obtain ⟨ps, d, rfl, _⟩ := h; rfl) fun cdv A outer s H E hr => ⟨_, (pss_cons (ps_if (PW.pt (pw_or (pt_not (pt_val (pe_callF G_is_list (hr.mono (by decide)) (pa_cons (pv 1) pa_nil)))) (pw_or (pt_cmpR op_eq (pe_callB (klen (K := K) rfl) (by rfl) T.n_len (by decide +kernel) (pa_cons (pv 1) pa_nil)) pe_int (nomark _)) (pw_or1 (pt_not (pt_val (pe_callB (kisi (K := K) rfl) (by rfl) T.n_isinstance (by decide +kernel) (pa_cons (pe_ix (kix (K := K) rfl) (pv 1) pe_int (fun _ _ => rfl)) (pa_cons (pe_bltn (v := .ty "str") (by rfl) T.n_str (by decide +kernel) rfl) pa_nil))))))))) (pss_one (ps_ret pe_bl)) pss_nil)
      (pss_cons (ps_par (i := 2) (j := 3) (by rfl) S_is_event.nd rfl rfl (by decide) (by rfl) (by rfl) (pa_cons (pe_ix (kix (K := K) rfl) (pv 1) pe_int (fun _ _ => rfl)) (pa_cons (pe_slice (ksl (K := K) rfl) (pv 1) (po_some pe_int) po_none) pa_nil)) (by rfl))
      (pss_cons (ps_if (pt_cmpR (kin (K := K) rfl) (pv 2) (pe_glob (v := .ref (He.ga K "SHORT")) (by rfl) T.c_SHORT rfl) (by rfl)) (pss_one (ps_ret (pe_cmpR op_eq (pe_callB (klen (K := K) rfl) (by rfl) T.n_len (by decide +kernel) (pa_cons (pv 3) pa_nil)) pe_int (nomark _)))) pss_nil)
      (pss_cons (ps_if (pt_cmpR op_eq (pv 2) pe_str (nomark _)) (pss_one (ps_ret (pe_and (pe_cmpR op_eq (pe_callB (klen (K := K) rfl) (by rfl) T.n_len (by decide +kernel) (pa_cons (pv 3) pa_nil)) pe_int (nomark _)) (pe_one (pe_callF G_is_name (hr.mono (by decide)) (pa_cons (pe_ix (kix (K := K) rfl) (pv 3) pe_int (fun _ _ => rfl)) pa_nil)))))) pss_nil)
      (pss_cons (ps_if (pt_cmpR (kin (K := K) rfl) (pv 2) (pe_glob (v := .ref (He.ga K "OF_PLACES")) (by rfl) T.c_OF_PLACES rfl) (by rfl)) (pss_one (ps_ret (pe_and (pe_cmpR op_eq (pe_callB (klen (K := K) rfl) (by rfl) T.n_len (by decide +kernel) (pa_cons (pv 3) pa_nil)) pe_int (nomark _)) (pe_one (pe_callF G_is_key (hr.mono (by decide)) (pa_cons (kfld (K := K) rfl (pv 0) rfl) (pa_cons (pe_ix (kix (K := K) rfl) (pv 3) pe_int (fun _ _ => rfl)) pa_nil))))))) pss_nil)
      (pss_cons (ps_if (pt_cmpR op_eq (pv 2) pe_str (nomark _)) (pss_one (ps_ret (pe_and (pe_cmpR op_eq (pe_callB (klen (K := K) rfl) (by rfl) T.n_len (by decide +kernel) (pa_cons (pv 3) pa_nil)) pe_int (nomark _)) (pe_and (pe_callF G_is_name (hr.mono (by decide)) (pa_cons (pe_ix (kix (K := K) rfl) (pv 3) pe_int (fun _ _ => rfl)) pa_nil)) (pe_one (pe_callF G_are_wishes (hr.mono (by decide)) (pa_cons (pv 0) (pa_cons (pe_ix (kix (K := K) rfl) (pv 3) pe_int (fun _ _ => rfl)) pa_nil)))))))) pss_nil)
      (pss_one (ps_ret (pe_and (pe_cmpR op_eq (pv 2) pe_str (nomark _)) (pe_and (pe_cmpR op_eq (pe_callB (klen (K := K) rfl) (by rfl) T.n_len (by decide +kernel) (pa_cons (pv 3) pa_nil)) pe_int (nomark _)) (pe_one (pe_callF G_is_coming (hr.mono (by decide)) (pa_cons (pv 0) (pa_cons (pv 3) pa_nil)))))))))))))), fun ds Qd h => ?_⟩
  obtain ⟨ps, d, rfl, hd, q⟩ := h
  unfold isEventD at q
  refine ws_seq (ws_if (et_or (et_not (et_B (ew_callP (ea_cons (ew_var rfl (ea_nil ⟨d, rfl, hd, _, rfl, ?_⟩))))))))
  cases e : d.seq with
  | none =>
    rw [seq_isList e]
    rw [e] at q
    exact iteT (iteT (ws_ret (ew_bl q)))
  | some xs =>
    rw [seq_isList' e]
    rw [e] at q
    refine iteF (et_or (et_test (ew_op (ew_cb (ea_cons (ew_var rfl (ea_nil (opa_len e (ew_int (op2_eq_int ⟨_, rfl, ?_⟩))))))))))
    cases xs with
    | nil => exact iteT (iteT (ws_ret (ew_bl q)))
    | cons x rest =>
      have nl : decide (((x :: rest).length : Int) = 0) = false := decide_eq_false (by rw [List.length_cons]; omega)
      rw [nl]
      have ok0 : Ok x := hd.mem e (i := 0) rfl
      refine iteF (et_not (et_B (ew_isi (by decide) (ew_op (ew_var rfl (ew_int (op2_ix e (atI_nat (j := 0) rfl) ⟨ok0.plain, _, rfl, ?_⟩)))))))
      cases ok0 with
      | @str x hx =>
        have q : Qd (.bl (evRest ps x rest)) := q
        unfold evRest at q
        refine iteF (ws_next (ws_seq (ws_par (ea_cons (ew_op (ew_var rfl (ew_int (op2_ix e (atI_nat (j := 0) rfl) (ea_cons (ew_slU d e (ew_var rfl ⟨rfl, eo_some (ew_int ⟨_, rfl, eo_none fun y hy => ea_nil ⟨_, _, rfl, ?_⟩⟩)⟩)))))))))))
        rw [cut_from1, List.drop_one, List.tail_cons] at hy
        have okr : ∀ (i : Nat) z, rest[i]? = some z → Ok z := fun i z hz => hd.mem e (i := i + 1) (by simpa using hz)
        have oky : Ok y := by
          have hl := (hd.seq e).1
          rw [List.length_cons] at hl
          cases y with
          | lst ys => cases hy; exact .lst (by omega) fun z hz => by obtain ⟨i, hi⟩ := List.mem_iff_getElem?.mp hz; exact okr i z hi
          | tup ys => cases hy; exact .tup (by omega) fun z hz => by obtain ⟨i, hi⟩ := List.mem_iff_getElem?.mp hz; exact okr i z hi
          | _ => cases hy
        -- if word in SHORT
        refine ws_seq (ws_if (et_test (ew_op (ew_var rfl (ew_c (d := .tup (strsD ["gather", "round"])) (fun G => .tup (T.v_SHORT G) (.cons (.str _) (.cons (.str _) .nil))) (op2_in (neg := false) rfl ⟨_, rfl, ?_⟩))))))
        refine ite_b (fun h1 => ws_ret (ew_op (ew_cb (ea_cons (ew_var rfl (ea_nil (opa_len hy (ew_int (op2_eq_int ?_))))))))) (fun h1 => ws_next ?_)
        · rw [show decide (x ∈ (["gather", "round"] : List Str)) = true from h1, if_pos rfl] at q
          have e1 : decide ((rest.length : Int) = 0) = decide (rest.length = 0) := by
            by_cases z : rest.length = 0
            · rw [decide_eq_true z, decide_eq_true (by omega)]
            · rw [decide_eq_false z, decide_eq_false (by omega)]
          rw [e1]; exact q
        rw [show decide (x ∈ (["gather", "round"] : List Str)) = false from h1, if_neg Bool.false_ne_true] at q
        -- if word == 'leave'
        refine ws_seq (ws_if (et_test (ew_op (ew_var rfl (ew_str (op2_eq_str ⟨_, rfl, ?_⟩))))))
        refine ite_b (fun h1 => ws_ret (ew_andV (ew_op (ew_cb (ea_cons (ew_var rfl (ea_nil (opa_len hy (ew_int (op2_eq_int ⟨_, rfl, ?_⟩)))))))))) (fun h1 => ws_next ?_)
        · rw [h1, if_pos rfl] at q
          match rest, okr, hy, q with
          | [], _, _, q => exact iteF q
          | [n], okr, hy, q => exact iteT (ew_callP (ea_cons (ew_op (ew_var rfl (ew_int (op2_ix hy (atI_nat (j := 0) rfl) (ea_nil ⟨n, rfl, okr 0 n rfl, q⟩)))))))
          | _ :: _ :: r, _, _, q =>
            rw [decide_eq_false (by simp only [List.length_cons]; omega)]
            exact iteF q
        rw [h1, if_neg Bool.false_ne_true] at q
        -- if word in OF_PLACES
        refine ws_seq (ws_if (et_test (ew_op (ew_var rfl (ew_c (d := .tup (strsD ["place", "withdraw"])) (fun G => .tup (T.v_OF_PLACES G) (.cons (.str _) (.cons (.str _) .nil))) (op2_in (neg := false) rfl ⟨_, rfl, ?_⟩))))))
        refine ite_b (fun h1 => ws_ret (ew_andV (ew_op (ew_cb (ea_cons (ew_var rfl (ea_nil (opa_len hy (ew_int (op2_eq_int ⟨_, rfl, ?_⟩)))))))))) (fun h1 => ws_next ?_)
        · rw [show decide (x ∈ (["place", "withdraw"] : List Str)) = true from h1, if_pos rfl] at q
          match rest, okr, hy, q with
          | [], _, _, q => exact iteF q
          | [n], okr, hy, q => exact iteT (ew_callP (ea_cons (ew_fld (ew_var rfl ⟨"Office", _, _, rfl, O.cl, O.na, rfl, ea_cons (ew_op (ew_var rfl (ew_int (op2_ix hy (atI_nat (j := 0) rfl) (ea_nil ⟨ps, n, rfl, okr 0 n rfl, q⟩)))))⟩))))
          | _ :: _ :: r, _, _, q =>
            rw [decide_eq_false (by simp only [List.length_cons]; omega)]
            exact iteF q
        rw [show decide (x ∈ (["place", "withdraw"] : List Str)) = false from h1, if_neg Bool.false_ne_true] at q
        -- if word == 'change'
        refine ws_seq (ws_if (et_test (ew_op (ew_var rfl (ew_str (op2_eq_str ⟨_, rfl, ?_⟩))))))
        refine ite_b (fun h1 => ws_ret (ew_andV (ew_op (ew_cb (ea_cons (ew_var rfl (ea_nil (opa_len hy (ew_int (op2_eq_int ⟨_, rfl, ?_⟩)))))))))) (fun h1 => ws_next ?_)
        · rw [h1, if_pos rfl] at q
          match rest, okr, hy, q with
          | [], _, _, q => exact iteF q
          | [_], _, _, q => exact iteF q
          | [n, ws], okr, hy, q =>
            have q : Qd (.bl (isNameD n && areWishesD ps ws)) := q
            refine iteT (ew_andV (ew_callP (ea_cons (ew_op (ew_var rfl (ew_int (op2_ix hy (atI_nat (j := 0) rfl) (ea_nil ⟨n, rfl, okr 0 n rfl, _, rfl, ?_⟩))))))))
            cases e1 : isNameD n with
            | false => rw [e1] at q; exact iteF q
            | true =>
              rw [e1] at q
              exact iteT (ew_callP (ea_cons (ew_var rfl (ea_cons (ew_op (ew_var rfl (ew_int (op2_ix hy (atI_nat (j := 1) rfl) (ea_nil ⟨ps, ws, rfl, okr 1 ws rfl, q⟩)))))))))
          | _ :: _ :: _ :: r, _, _, q =>
            rw [decide_eq_false (by simp only [List.length_cons]; omega)]
            exact iteF q
        rw [h1, if_neg Bool.false_ne_true] at q
        -- return word == 'come' and ..
        refine ws_ret (ew_andV (ew_op (ew_var rfl (ew_str (op2_eq_str ⟨_, rfl, ?_⟩)))))
        refine ite_b (fun h1 => ew_andV (ew_op (ew_cb (ea_cons (ew_var rfl (ea_nil (opa_len hy (ew_int (op2_eq_int ⟨_, rfl, ?_⟩))))))))) (fun h1 => ?_)
        · rw [h1, if_pos rfl] at q
          match rest, okr, hy, oky, q with
          | [], _, _, _, q => exact iteF q
          | [_], _, _, _, q => exact iteF q
          | [_, _], _, _, _, q => exact iteF q
          | [_, _, _], _, _, _, q => exact iteF q
          | [n, ws, p, h], okr, hy, oky, q => exact iteT (ew_callP (ea_cons (ew_var rfl (ea_cons (ew_var rfl (ea_nil ⟨ps, y, n, ws, p, h, rfl, oky, hy, q⟩))))))
          | _ :: _ :: _ :: _ :: _ :: r, _, _, _, q =>
            rw [decide_eq_false (by simp only [List.length_cons]; omega)]
            exact iteF q
        rw [h1, if_neg Bool.false_ne_true] at q
        exact q
      | _ => exact iteT (ws_ret (ew_bl q))
end
end K01

set_option Elab.async false
set_option linter.all false
set_option maxRecDepth 100000
namespace K01
open PySem PySem.Spec PyProof.Rows L2 DL
theorem ded_len : ∀ (xs acc : List Str), ((xs.foldl stp acc).length = acc.length + xs.length ↔ (xs.Nodup ∧ ∀ x ∈ xs, x ∉ acc)) ∧ (xs.foldl stp acc).length ≤ acc.length + xs.length
  | [], acc => by simp
  | x :: xs, acc => by
    have ih := ded_len xs (stp acc x)
    rw [List.foldl_cons, List.length_cons]
    have es := stp_len acc x
    by_cases h : acc.any (· == x) = true
    · rw [if_pos h] at es
      have hm : x ∈ acc := by
        rw [List.any_eq_true] at h
        obtain ⟨y, hy, e⟩ := h
        have e : y = x := by simpa using e
        exact e ▸ hy
      refine ⟨⟨fun z => ?_, fun z => ?_⟩, by omega⟩
      · have := ih.2; omega
      · exact absurd hm (z.2 x List.mem_cons_self)
    · rw [if_neg h] at es
      have hm : x ∉ acc := fun z => h (by rw [List.any_eq_true]; exact ⟨x, z, by simp⟩)
      have est : stp acc x = acc ++ [x] := by unfold stp; rw [if_neg h]
      refine ⟨?_, by omega⟩
      rw [show acc.length + (xs.length + 1) = (stp acc x).length + xs.length by omega, ih.1, est]
      rw [List.nodup_cons]
      constructor
      · rintro ⟨h1, h2⟩
        refine ⟨⟨fun m => h2 x m (by simp), h1⟩, fun y hy => ?_⟩
        rcases List.mem_cons.mp hy with e | hy
        · subst e; exact hm
        · exact fun z => h2 y hy (by simp [z])
      · rintro ⟨⟨h1, h2⟩, h3⟩
        refine ⟨h2, fun y hy z => ?_⟩
        rcases List.mem_append.mp z with z | z
        · exact h3 y (List.mem_cons_of_mem _ hy) z
        · have e : y = x := by simpa using z
          subst e; exact h1 hy
theorem ded_nodup (xs : List Str) : decide (((ded xs).length : Int) = (xs.length : Int)) = decide xs.Nodup := by
  have h := (ded_len xs []).1
  simp only [List.length_nil, Nat.zero_add, List.not_mem_nil, not_false_eq_true, implies_true, and_true] at h
  rw [Bool.eq_iff_iff, decide_eq_true_eq, decide_eq_true_eq, ← h]
  unfold ded
  omega
section
variable {P : Program} {w : World} {K : PySem.W.Frag} {mg : Str → Option Value} {base : Heap}
abbrev N__law_is_name : List Str := ["_law_thing", "_law_signs", "_law_sign"]
theorem S__law_is_name : FnScope N__law_is_name ["_law_thing"] (defScope s__law_is_name) := ⟨rfl, rfl, rfl, by decide +kernel, rfl, by decide +kernel, by decide +kernel⟩
theorem ok_law_is_name (T : TX K mg) : FnB P w K mg base 1 "_law_is_name" ["_law_thing"] (spP K (T1 isNameD)) := by
  obtain ⟨fd, F⟩ := T.F__law_is_name
  refine fn_P (k := 0) F T.g__law_is_name (fun _ _ _ _ _ _ us hl => match us, hl with | [_], _ => rfl) S__law_is_name (fun ds Qd h => by obtain ⟨d, rfl, _⟩ := h; rfl) fun cdv A outer s H E hr => ⟨_, (pss_cons (ps_set (i := 1) S__law_is_name.nd rfl (by first | exact .inl rfl | exact .inr rfl) pe_str)
      (pss_one (ps_ret (pe_and (pe_callB (kisi (K := K) rfl) (by rfl) T.n_isinstance (by decide +kernel) (pa_cons (pv 0) (pa_cons (pe_bltn (v := .ty "str") (by rfl) T.n_str (by decide +kernel) rfl) pa_nil))) (pe_and (pe_chain op_lt op_lt pe_int (pe_callB (klen (K := K) rfl) (by rfl) T.n_len (by decide +kernel) (pa_cons (pv 0) pa_nil)) pe_int) (pe_one (pe_callB (kall rfl (K := K) rfl) (by rfl) T.n_all (by decide +kernel) (pa_cons (pe_lc (own := [("_law_sign", 2)]) rfl S__law_is_name.nd (pi_str (pv 0)) (blkOk_by (own := [("_law_sign", 2)]) (N := N__law_is_name) (sc := defScope s__law_is_name) (by decide +kernel)) (fun _ _ _ _ _ => (pg_name (i := 2) S__law_is_name.nd rfl (by first | exact .inl rfl | exact .inr rfl))) (fun _ _ _ _ _ => pts_nil) (fun _ _ _ _ _ => (pe_cmpR op_in_sign (pv 2) (pv 1) (by rfl)))) pa_nil)))))))), fun ds Qd h => ?_⟩
  obtain ⟨d, rfl, hd, q⟩ := h
  refine ws_seq (ws_asg (ew_str (gw_name (ws_ret (ew_andV (ew_isi (by decide) (ew_var rfl ⟨hd.plain, _, rfl, ?_⟩)))))))
  cases hd with
  | @str x hx =>
    refine iteT (ew_andV (ew_chain (ew_int (ew_cb (ea_cons (ew_var rfl (ea_nil (opa_len_str (by omega) (op2_cmp ⟨_, rfl, ?_⟩)))))))))
    have q : Qd (.bl (decide ((1 : Int) ≤ x.length) && (decide ((x.length : Int) ≤ 8) && x.cps.toList.all fun c => decide (c ∈ signs.cps.toList)))) := q
    have l1 : decide ((1 : Int) ≤ x.length) = decide ((0 : Int) < x.length) := by
      rw [Bool.eq_iff_iff, decide_eq_true_eq, decide_eq_true_eq]; omega
    have l2 : decide ((x.length : Int) ≤ 8) = decide ((x.length : Int) < 9) := by
      rw [Bool.eq_iff_iff, decide_eq_true_eq, decide_eq_true_eq]; omega
    rw [l1, l2] at q
    cases e1 : decide ((0 : Int) < x.length) with
    | false =>
      rw [e1] at q
      exact iteF ⟨_, rfl, iteF q⟩
    | true =>
      rw [e1] at q
      refine iteT (ew_int (op2_cmp ⟨_, rfl, ?_⟩))
      cases e2 : decide ((x.length : Int) < 9) with
      | false =>
        rw [e2] at q
        exact iteF q
      | true =>
        rw [e2] at q
        refine iteT (ew_cb (ea_cons (ew_new (en_lcB (f := fun d => match d with | .str z => decide (z.cps.toList.head?.getD 0 ∈ signs.cps.toList) | _ => false) (ei_str (ew_var rfl ⟨x, rfl, rfl, ?_, ?_, ea_nil ?_⟩))))))
        · rw [List.length_map]
          have : x.cps.toList.length = x.length := by simp [Str.length]
          omega
        · intro i d hd
          rw [List.getElem?_map] at hd
          obtain ⟨c, _, rfl⟩ := Option.map_eq_some_iff.mp hd
          exact gv_name (by decide) (ew_op (ew_var rfl (ew_var rfl (op2_sign ⟨rfl, rfl⟩))))
        · refine opa_all ?_
          rw [List.all_map, List.all_map]
          exact q
  | _ => exact iteF q
abbrev N__law_is_kind : List Str := ["_law_ranks", "_law_thing"]
theorem S__law_is_kind : FnScope N__law_is_kind ["_law_ranks", "_law_thing"] (defScope s__law_is_kind) := ⟨rfl, rfl, rfl, by decide +kernel, rfl, by decide +kernel, by decide +kernel⟩
theorem ok_law_is_kind (T : TX K mg) : FnB P w K mg base 1 "_law_is_kind" ["_law_ranks", "_law_thing"] (spP K TKey) := by
  obtain ⟨fd, F⟩ := T.F__law_is_kind
  refine fn_P (k := 0) F T.g__law_is_kind (fun _ _ _ _ _ _ us hl => match us, hl with | [_, _], _ => rfl) S__law_is_kind (fun ds Qd h => by obtain ⟨ps, d, rfl, _⟩ := h; rfl) fun cdv A outer s H E hr => ⟨_, (pss_one (ps_ret (pe_and (pe_callB (kisi (K := K) rfl) (by rfl) T.n_isinstance (by decide +kernel) (pa_cons (pv 1) (pa_cons (pe_bltn (v := .ty "str") (by rfl) T.n_str (by decide +kernel) rfl) pa_nil))) (pe_one (pe_cmp (pc_din (hu_of hr) (pv 1) (pv 0)) (by rfl)))))), fun ds Qd h => ?_⟩
  obtain ⟨ps, d, rfl, hd, q⟩ := h
  refine ws_ret (ew_andV (ew_isi (by decide) (ew_var rfl ⟨hd.plain, _, rfl, ?_⟩)))
  cases hd with
  | @str x hx => exact iteT (ew_din (ew_var rfl (ew_var rfl ⟨.inr x, ps, rfl, rfl, q⟩)))
  | _ => exact iteF q
abbrev N__law_are_wishes : List Str := ["_law_ranks", "_law_thing", "_law_one"]
theorem S__law_are_wishes : FnScope N__law_are_wishes ["_law_ranks", "_law_thing"] (defScope s__law_are_wishes) := ⟨rfl, rfl, rfl, by decide +kernel, rfl, by decide +kernel, by decide +kernel⟩
def TWishL : List D → (D → Prop) → Prop := fun ds Q => ∃ ps d, ds = [.dk ps, d] ∧ Ok d ∧ Q (.bl (areWishesD ps d))
theorem ok_law_are_wishes (T : TX K mg) : FnB P w K mg base 1 "_law_are_wishes" ["_law_ranks", "_law_thing"] (spP K TWishL) := by
  obtain ⟨fd, F⟩ := T.F__law_are_wishes
  refine fn_P (k := 0) F T.g__law_are_wishes (fun _ _ _ _ _ _ us hl => match us, hl with | [_, _], _ => rfl) S__law_are_wishes (fun ds Qd h => by obtain ⟨ps, d, rfl, _⟩ := h; rfl) fun cdv A outer s H E hr => ⟨_, (pss_cons (ps_if (PW.pt (pw_or (pt_not (pt_val (pe_callB (kisiT (K := K) rfl) (by rfl) T.n_isinstance (by decide +kernel) (pa_cons (pv 1) (pa_cons (pe_tup (pa_cons (pe_bltn (v := .ty "list") (by rfl) T.n_list (by decide +kernel) rfl) (pa_cons (pe_bltn (v := .ty "tuple") (by rfl) T.n_tuple (by decide +kernel) rfl) pa_nil))) pa_nil))))) (pw_or1 (pt_not (pt_val (pe_callB (kall rfl (K := K) rfl) (by rfl) T.n_all (by decide +kernel) (pa_cons (pe_lc (own := [("_law_one", 2)]) rfl S__law_are_wishes.nd (kwU (K := K) rfl (pv 1)) (blkOk_by (own := [("_law_one", 2)]) (N := N__law_are_wishes) (sc := defScope s__law_are_wishes) (by decide +kernel)) (fun _ _ _ _ _ => (pg_name (i := 2) S__law_are_wishes.nd rfl (by first | exact .inl rfl | exact .inr rfl))) (fun _ _ _ _ _ => pts_nil) (fun _ _ _ _ _ => (pe_and (pe_callB (kisi (K := K) rfl) (by rfl) T.n_isinstance (by decide +kernel) (pa_cons (pv 2) (pa_cons (pe_bltn (v := .ty "str") (by rfl) T.n_str (by decide +kernel) rfl) pa_nil))) (pe_one (pe_cmp (pc_din (hu_of hr) (pv 2) (pv 0)) (by rfl)))))) pa_nil))))))) (pss_one (ps_ret pe_bl)) pss_nil)
      (pss_one (ps_ret (pe_cmpR op_eq (klenset (K := K) rfl rfl (by rfl) T.n_len (by rfl) T.n_set (pv 1)) (pe_callB (klen (K := K) rfl) (by rfl) T.n_len (by decide +kernel) (pa_cons (pv 1) pa_nil)) (nomark _))))), fun ds Qd h => ?_⟩
  obtain ⟨ps, d, rfl, hd, q⟩ := h
  unfold areWishesD at q
  refine ws_seq (ws_if (et_or (et_not (et_B (ew_isi2 (by decide) (by decide) (ew_var rfl ⟨hd.plain, _, rfl, ?_⟩))))))
  cases e : d.seq with
  | none =>
    rw [show (tyIs d.ty "list" || tyIs d.ty "tuple") = false from seq_isList e]
    rw [e] at q
    exact iteT (iteT (ws_ret (ew_bl q)))
  | some xs =>
    rw [show (tyIs d.ty "list" || tyIs d.ty "tuple") = true from seq_isList' e]
    rw [e] at q
    have q : Qd (.bl (xs.all (isKeyD ps) && decide (xs.map toStr).Nodup)) := q
    refine iteF (et_not (et_B (ew_cb (ea_cons (ew_new (en_lcB (f := isKeyD ps) (ei_seq d e (ew_var rfl ⟨rfl, rfl, by have := (hd.seq e).1; omega, fun i y hy => ?_, ea_nil (opa_all ⟨_, rfl, ?_⟩)⟩))))))))
    · have oky := hd.mem e hy
      refine gv_name (by decide) (ew_andV (ew_isi (by decide) (ew_var rfl ⟨oky.plain, _, rfl, ?_⟩)))
      cases oky with
      | @str x hx => exact iteT (ew_din (ew_var rfl (ew_var rfl ⟨.inr x, ps, rfl, rfl, rfl, rfl⟩)))
      | _ => exact iteF ⟨rfl, rfl⟩
    · rw [List.all_map]
      have e1 : xs.all (id ∘ isKeyD ps) = xs.all (isKeyD ps) := rfl
      rw [e1]
      cases e2 : xs.all (isKeyD ps) with
      | false => rw [e2] at q; exact iteT (ws_ret (ew_bl q))
      | true =>
        rw [e2] at q
        have es := strs_of_keys e2
        refine iteF (ws_next (ws_ret (ew_op (ew_lenset (ew_var rfl ⟨xs.map toStr, by rw [e, ← es], by have := (hd.seq e).1; rw [List.length_map]; omega, ew_cb (ea_cons (ew_var rfl (ea_nil (opa_len e (op2_eq_int ?_)))))⟩)))))
        have eq1 := ded_nodup (xs.map toStr)
        rw [List.length_map] at eq1
        rw [eq1]
        exact q
abbrev N__law_is_due : List Str := ["_law_ranks", "_law_thing", "_law_word", "_law_many", "_law_points", "_law_home"]
theorem S__law_is_due : FnScope N__law_is_due ["_law_ranks", "_law_thing"] (defScope s__law_is_due) := ⟨rfl, rfl, rfl, by decide +kernel, rfl, by decide +kernel, by decide +kernel⟩
def TDue : List D → (D → Prop) → Prop := fun ds Q => ∃ ps d, ds = [.dk ps, d] ∧ Ok d ∧ Q (.bl (isEventD ps d))
theorem ok_law_is_due (T : TX K mg) : FnB P w K mg base 2 "_law_is_due" ["_law_ranks", "_law_thing"] (spP K TDue) := by
  obtain ⟨fd, F⟩ := T.F__law_is_due
  have G__law_is_name := ok_law_is_name (P := P) (w := w) (base := base) T
  have G__law_is_kind := ok_law_is_kind (P := P) (w := w) (base := base) T
  have G__law_are_wishes := ok_law_are_wishes (P := P) (w := w) (base := base) T
  refine fn_P (k := 1) F T.g__law_is_due (fun _ _ _ _ _ _ us hl => match us, hl with | [_, _], _ => rfl) S__law_is_due (fun ds Qd h => by obtain ⟨ps, d, rfl, _⟩ := h; rfl) fun cdv A outer s H E hr => ⟨_, (pss_cons (ps_if (PW.pt (pw_or (pt_not (pt_val (pe_callB (kisiT (K := K) rfl) (by rfl) T.n_isinstance (by decide +kernel) (pa_cons (pv 1) (pa_cons (pe_tup (pa_cons (pe_bltn (v := .ty "list") (by rfl) T.n_list (by decide +kernel) rfl) (pa_cons (pe_bltn (v := .ty "tuple") (by rfl) T.n_tuple (by decide +kernel) rfl) pa_nil))) pa_nil))))) (pw_or (pt_cmpR op_eq (pe_callB (klen (K := K) rfl) (by rfl) T.n_len (by decide +kernel) (pa_cons (pv 1) pa_nil)) pe_int (nomark _)) (pw_or1 (pt_not (pt_val (pe_callB (kisi (K := K) rfl) (by rfl) T.n_isinstance (by decide +kernel) (pa_cons (pe_ix (kix (K := K) rfl) (pv 1) pe_int (fun _ _ => rfl)) (pa_cons (pe_bltn (v := .ty "str") (by rfl) T.n_str (by decide +kernel) rfl) pa_nil))))))))) (pss_one (ps_ret pe_bl)) pss_nil)
      (pss_cons (ps_par (i := 2) (j := 3) (by rfl) S__law_is_due.nd rfl rfl (by decide) (by rfl) (by rfl) (pa_cons (pe_ix (kix (K := K) rfl) (pv 1) pe_int (fun _ _ => rfl)) (pa_cons (pe_callB (klen (K := K) rfl) (by rfl) T.n_len (by decide +kernel) (pa_cons (pv 1) pa_nil)) pa_nil)) (by rfl))
      (pss_cons (ps_if (PW.pt (pw_and (pt_cmpR op_eq (pv 2) pe_str (nomark _)) (pw_and1 (pt_cmpR op_eq (pv 3) pe_int (nomark _))))) (pss_cons (ps_par (i := 4) (j := 5) (by rfl) S__law_is_due.nd rfl rfl (by decide) (by rfl) (by rfl) (pa_cons (pe_ix (kix (K := K) rfl) (pv 1) pe_int (fun _ _ => rfl)) (pa_cons (pe_ix (kix (K := K) rfl) (pv 1) pe_int (fun _ _ => rfl)) pa_nil)) (by rfl))
      (pss_cons (ps_if (PW.pt (pw_or (pt_not (pt_val (pe_callF G__law_is_name (hr.mono (by decide)) (pa_cons (pe_ix (kix (K := K) rfl) (pv 1) pe_int (fun _ _ => rfl)) pa_nil)))) (pw_or1 (pt_not (pt_val (pe_callF G__law_are_wishes (hr.mono (by decide)) (pa_cons (pv 0) (pa_cons (pe_ix (kix (K := K) rfl) (pv 1) pe_int (fun _ _ => rfl)) pa_nil)))))))) (pss_one (ps_ret pe_bl)) pss_nil)
      (pss_cons (ps_if (PW.pt (pw_or (pt_not (pt_val (pe_callB (kisi (K := K) rfl) (by rfl) T.n_isinstance (by decide +kernel) (pa_cons (pv 4) (pa_cons (pe_bltn (v := .ty "int") (by rfl) T.n_int (by decide +kernel) rfl) pa_nil))))) (pw_or (pt_val (pe_callB (kisi (K := K) rfl) (by rfl) T.n_isinstance (by decide +kernel) (pa_cons (pv 4) (pa_cons (pe_bltn (v := .ty "bool") (by rfl) T.n_bool (by decide +kernel) rfl) pa_nil)))) (pw_or1 (pt_not (pt_chain op_le op_le pe_int (pv 4) (pe_op op_pow pe_int pe_int))))))) (pss_one (ps_ret pe_bl)) pss_nil)
      (pss_one (ps_ret (pe_or (pe_cmpR op_isN (pv 5) pe_non (nomark _)) (pe_one (pe_callF G__law_is_kind (hr.mono (by decide)) (pa_cons (pv 0) (pa_cons (pv 5) pa_nil)))))))))) pss_nil)
      (pss_cons (ps_if (pt_cmpR (kin (K := K) rfl) (pv 2) (pe_tup (pa_cons pe_str (pa_cons pe_str pa_nil))) (by rfl)) (pss_one (ps_ret (pe_and (pe_cmpR op_eq (pv 3) pe_int (nomark _)) (pe_one (pe_callF G__law_is_kind (hr.mono (by decide)) (pa_cons (pv 0) (pa_cons (pe_ix (kix (K := K) rfl) (pv 1) pe_int (fun _ _ => rfl)) pa_nil))))))) pss_nil)
      (pss_cons (ps_if (pt_cmpR op_eq (pv 2) pe_str (nomark _)) (pss_one (ps_ret (pe_and (pe_cmpR op_eq (pv 3) pe_int (nomark _)) (pe_one (pe_callF G__law_is_name (hr.mono (by decide)) (pa_cons (pe_ix (kix (K := K) rfl) (pv 1) pe_int (fun _ _ => rfl)) pa_nil)))))) pss_nil)
      (pss_cons (ps_if (pt_cmpR op_eq (pv 2) pe_str (nomark _)) (pss_one (ps_ret (pe_and (pe_cmpR op_eq (pv 3) pe_int (nomark _)) (pe_and (pe_callF G__law_is_name (hr.mono (by decide)) (pa_cons (pe_ix (kix (K := K) rfl) (pv 1) pe_int (fun _ _ => rfl)) pa_nil)) (pe_one (pe_callF G__law_are_wishes (hr.mono (by decide)) (pa_cons (pv 0) (pa_cons (pe_ix (kix (K := K) rfl) (pv 1) pe_int (fun _ _ => rfl)) pa_nil)))))))) pss_nil)
      (pss_one (ps_ret (pe_and (pe_cmpR (kin (K := K) rfl) (pv 2) (pe_tup (pa_cons pe_str (pa_cons pe_str pa_nil))) (by rfl)) (pe_one (pe_cmpR op_eq (pv 3) pe_int (nomark _)))))))))))), fun ds Qd h => ?_⟩
  obtain ⟨ps, d, rfl, hd, q⟩ := h
  unfold isEventD at q
  refine ws_seq (ws_if (et_or (et_not (et_B (ew_isi2 (by decide) (by decide) (ew_var rfl ⟨hd.plain, _, rfl, ?_⟩))))))
  cases e : d.seq with
  | none =>
    rw [show (tyIs d.ty "list" || tyIs d.ty "tuple") = false from seq_isList e]
    rw [e] at q
    exact iteT (iteT (ws_ret (ew_bl q)))
  | some xs =>
    rw [show (tyIs d.ty "list" || tyIs d.ty "tuple") = true from seq_isList' e]
    rw [e] at q
    refine iteF (et_or (et_test (ew_op (ew_cb (ea_cons (ew_var rfl (ea_nil (opa_len e (ew_int (op2_eq_int ⟨_, rfl, ?_⟩))))))))))
    cases xs with
    | nil => exact iteT (iteT (ws_ret (ew_bl q)))
    | cons x rest =>
      have nl : decide (((x :: rest).length : Int) = 0) = false := decide_eq_false (by rw [List.length_cons]; omega)
      rw [nl]
      have ok0 : Ok x := hd.mem e (i := 0) rfl
      refine iteF (et_not (et_B (ew_isi (by decide) (ew_op (ew_var rfl (ew_int (op2_ix e (atI_nat (j := 0) rfl) ⟨ok0.plain, _, rfl, ?_⟩)))))))
      cases ok0 with
      | @str x hx =>
        have q : Qd (.bl (evRest ps x rest)) := q
        have okr : ∀ (i : Nat) z, rest[i]? = some z → Ok z := fun i z hz => hd.mem e (i := i + 1) (by simpa using hz)
        refine iteF <| ws_next <| ws_seq <| ws_par <| ea_cons <| ew_op <| ew_var rfl <| ew_int <| op2_ix e (atI_nat (j := 0) rfl) <| ea_cons <| ew_cb <| ea_cons <| ew_var rfl <| ea_nil <| opa_len e <| ea_nil ⟨_, _, rfl, ?_⟩
        have em : ∀ m : Nat, decide ((((D.str x :: rest).length : Nat) : Int) = ((m + 1 : Nat) : Int)) = decide (rest.length = m) := fun m => by
          rw [Bool.eq_iff_iff, decide_eq_true_eq, decide_eq_true_eq, List.length_cons]; omega
        refine ws_seq <| ws_ifn (C := x = "come" → evRest ps x rest = false) (et_and <| et_test <| ew_op <| ew_var rfl <| ew_str <| op2_eq_str ⟨_, rfl, ?_⟩) fun hC => ?_
        · by_cases hc : x = "come"
          · subst hc
            have ev : ∀ r : List D, evRest ps "come" r = on4 (comingD ps) r := fun r => rfl
            rw [ev] at q ⊢
            rw [decide_eq_true rfl]
            refine iteT <| et_test <| ew_op <| ew_var rfl <| ew_int <| op2_eq_int ⟨_, rfl, ?_⟩
            rw [show (5 : Int) = ((4 + 1 : Nat) : Int) from rfl, em 4]
            match rest, okr, e, q with
            | [n, ws, p, h], okr, e, q =>
              have okn := okr 0 n rfl
              have okw := okr 1 ws rfl
              have okp := okr 2 p rfl
              have okh := okr 3 h rfl
              have q : Qd (.bl (isNameD n && areWishesD ps ws && isTimeD p && (h.isNon || isKeyD ps h))) := q
              refine iteT <| ws_seq <| ws_par <| ea_cons <| ew_op <| ew_var rfl <| ew_int <| op2_ix e (atI_nat (j := 3) rfl) <| ea_cons <| ew_op <| ew_var rfl <| ew_int <| op2_ix e (atI_nat (j := 4) rfl) <| ea_nil ⟨_, _, rfl, ?_⟩
              refine ws_seq <| ws_if <| et_or <| et_not <| et_B <| ew_callP <| ea_cons <| ew_op <| ew_var rfl <| ew_int <| op2_ix e (atI_nat (j := 1) rfl) <| ea_nil ⟨n, rfl, okn, _, rfl, ?_⟩
              cases e1 : isNameD n with
              | false => rw [e1] at q; exact iteT (iteT (ws_ret (ew_bl q)))
              | true =>
                rw [e1] at q
                refine iteF <| et_not <| et_B <| ew_callP <| ea_cons <| ew_var rfl <| ea_cons <| ew_op <| ew_var rfl <| ew_int <| op2_ix e (atI_nat (j := 2) rfl) <| ea_nil ⟨ps, ws, rfl, okw, _, rfl, ?_⟩
                cases e2 : areWishesD ps ws with
                | false => rw [e2] at q; exact iteT (ws_ret (ew_bl q))
                | true =>
                  rw [e2] at q
                  refine iteF <| ws_next <| ws_seq <| ws_if <| et_or <| et_not <| et_B <| ew_isi (by decide) <| ew_var rfl ⟨okp.plain, _, rfl, ?_⟩
                  cases okp with
                  | int i =>
                    refine iteF <| et_or <| et_B <| ew_isi (by decide) <| ew_var rfl ⟨rfl, _, rfl, ?_⟩
                    refine iteF <| et_not <| et_test <| ew_chain <| ew_int <| ew_var rfl <| op2_cmp ⟨_, rfl, ?_⟩
                    have q : Qd (.bl ((decide (0 ≤ i) && decide (i ≤ 1000000)) && (h.isNon || isKeyD ps h))) := q
                    cases e3 : decide (0 ≤ i) with
                    | false => rw [e3] at q; exact iteF ⟨_, rfl, iteT (ws_ret (ew_bl q))⟩
                    | true =>
                      rw [e3] at q
                      refine iteT <| ew_op <| ew_int <| ew_int <| op2_intC ⟨by decide, by decide, by decide⟩ <| op2_cmp ⟨_, rfl, ?_⟩
                      have ep : ((10 : Int) ^ (6 : Int).toNat) = 1000000 := by decide
                      rw [ep]
                      cases e4 : decide (i ≤ 1000000) with
                      | false => rw [e4] at q; exact iteT (ws_ret (ew_bl q))
                      | true =>
                        rw [e4] at q
                        refine iteF <| ws_next <| ws_ret <| ew_orV <| ew_op <| ew_var rfl <| ew_non <| op2_isN ⟨_, rfl, ?_⟩
                        cases e5 : h.isNon with
                        | true => rw [e5] at q; exact iteT q
                        | false =>
                          rw [e5] at q
                          exact iteF <| ew_callP <| ea_cons <| ew_var rfl <| ea_cons <| ew_var rfl <| ea_nil ⟨ps, h, rfl, okh, q⟩
                  | bl b => exact iteF <| et_or <| et_B <| ew_isi (by decide) <| ew_var rfl ⟨rfl, _, rfl, iteT (iteT (ws_ret (ew_bl q)))⟩
                  | _ => exact iteT (iteT (ws_ret (ew_bl q)))
            | [], _, _, _ => exact iteF ⟨rfl, fun _ => rfl⟩
            | [_], _, _, _ => exact iteF ⟨rfl, fun _ => rfl⟩
            | [_, _], _, _, _ => exact iteF ⟨rfl, fun _ => rfl⟩
            | [_, _, _], _, _, _ => exact iteF ⟨rfl, fun _ => rfl⟩
            | _ :: _ :: _ :: _ :: _ :: r, _, _, _ =>
              rw [decide_eq_false (by simp only [List.length_cons]; omega)]
              exact iteF ⟨rfl, fun _ => rfl⟩
          · rw [decide_eq_false hc]
            exact iteF (iteF ⟨rfl, fun z => absurd z hc⟩)
        -- if word in ('place', 'withdraw')
        refine ws_seq <| ws_if <| et_test <| ew_op <| ew_var rfl <| ew_tup <| ea_cons <| ew_str <| ea_cons <| ew_str <| ea_nil ⟨by decide, op2_in (neg := false) (ys := ["place", "withdraw"]) rfl ⟨_, rfl, ?_⟩⟩
        refine ite_b (fun h1 => ws_ret <| ew_andV <| ew_op <| ew_var rfl <| ew_int <| op2_eq_int ⟨_, rfl, ?_⟩) (fun h1 => ws_next ?_)
        · have hp : evRest ps x rest = on1 (isKeyD ps) rest := by
            have hm : x = "place" ∨ x = "withdraw" := by simpa using h1
            rcases hm with rfl | rfl <;> rfl
          rw [hp] at q
          rw [show (2 : Int) = ((1 + 1 : Nat) : Int) from rfl, em 1]
          match rest, okr, e, q with
          | [], _, _, q => exact iteF q
          | [n], okr, e, q => exact iteT <| ew_callP <| ea_cons <| ew_var rfl <| ea_cons <| ew_op <| ew_var rfl <| ew_int <| op2_ix e (atI_nat (j := 1) rfl) <| ea_nil ⟨ps, n, rfl, okr 0 n rfl, q⟩
          | _ :: _ :: r, _, _, q =>
            rw [decide_eq_false (by simp only [List.length_cons]; omega)]
            exact iteF q
        have n1 : ¬ x = "place" ∧ ¬ x = "withdraw" := by simpa using h1
        -- if word == 'leave'
        refine ws_seq <| ws_if <| et_test <| ew_op <| ew_var rfl <| ew_str <| op2_eq_str ⟨_, rfl, ?_⟩
        refine ite_b (fun h1 => ws_ret <| ew_andV <| ew_op <| ew_var rfl <| ew_int <| op2_eq_int ⟨_, rfl, ?_⟩) (fun h1 => ws_next ?_)
        · have hp : evRest ps x rest = on1 isNameD rest := by
            have hm : x = "leave" := of_decide_eq_true h1
            rw [hm]; rfl
          rw [hp] at q
          rw [show (2 : Int) = ((1 + 1 : Nat) : Int) from rfl, em 1]
          match rest, okr, e, q with
          | [], _, _, q => exact iteF q
          | [n], okr, e, q => exact iteT <| ew_callP <| ea_cons <| ew_op <| ew_var rfl <| ew_int <| op2_ix e (atI_nat (j := 1) rfl) <| ea_nil ⟨n, rfl, okr 0 n rfl, q⟩
          | _ :: _ :: r, _, _, q =>
            rw [decide_eq_false (by simp only [List.length_cons]; omega)]
            exact iteF q
        have n2 : ¬ x = "leave" := of_decide_eq_false h1
        -- if word == 'change'
        refine ws_seq <| ws_if <| et_test <| ew_op <| ew_var rfl <| ew_str <| op2_eq_str ⟨_, rfl, ?_⟩
        refine ite_b (fun h1 => ws_ret <| ew_andV <| ew_op <| ew_var rfl <| ew_int <| op2_eq_int ⟨_, rfl, ?_⟩) (fun h1 => ws_next ?_)
        · have hp : evRest ps x rest = on2 (fun n ws => isNameD n && areWishesD ps ws) rest := by
            have hm : x = "change" := of_decide_eq_true h1
            rw [hm]; rfl
          rw [hp] at q
          rw [show (3 : Int) = ((2 + 1 : Nat) : Int) from rfl, em 2]
          match rest, okr, e, q with
          | [], _, _, q => exact iteF q
          | [_], _, _, q => exact iteF q
          | [n, ws], okr, e, q =>
            have q : Qd (.bl (isNameD n && areWishesD ps ws)) := q
            refine iteT <| ew_andV <| ew_callP <| ea_cons <| ew_op <| ew_var rfl <| ew_int <| op2_ix e (atI_nat (j := 1) rfl) <| ea_nil ⟨n, rfl, okr 0 n rfl, _, rfl, ?_⟩
            cases e1 : isNameD n with
            | false => rw [e1] at q; exact iteF q
            | true =>
              rw [e1] at q
              exact iteT <| ew_callP <| ea_cons <| ew_var rfl <| ea_cons <| ew_op <| ew_var rfl <| ew_int <| op2_ix e (atI_nat (j := 2) rfl) <| ea_nil ⟨ps, ws, rfl, okr 1 ws rfl, q⟩
          | _ :: _ :: _ :: r, _, _, q =>
            rw [decide_eq_false (by simp only [List.length_cons]; omega)]
            exact iteF q
        have n3 : ¬ x = "change" := of_decide_eq_false h1
        -- return word in ('gather', 'round') and many == 1
        refine ws_ret <| ew_andV <| ew_op <| ew_var rfl <| ew_tup <| ea_cons <| ew_str <| ea_cons <| ew_str <| ea_nil ⟨by decide, op2_in (neg := false) (ys := ["gather", "round"]) rfl ⟨_, rfl, ?_⟩⟩
        refine ite_b (fun h1 => ew_op <| ew_var rfl <| ew_int <| op2_eq_int ?_) (fun h1 => ?_)
        · have hp : evRest ps x rest = decide (rest.length = 0) := by
            have hm : x = "gather" ∨ x = "round" := by simpa using h1
            rcases hm with rfl | rfl <;> rfl
          rw [hp] at q
          rw [show (1 : Int) = ((0 + 1 : Nat) : Int) from rfl, em 0]
          exact q
        · have n4 : ¬ x = "gather" ∧ ¬ x = "round" := by simpa using h1
          have hp : evRest ps x rest = false := by
            by_cases hc : x = "come"
            · exact hC hc
            · unfold evRest
              simp [n1.1, n1.2, n2, n3, n4.1, n4.2, hc]
          rw [hp] at q
          exact q
      | _ => exact iteT (ws_ret (ew_bl q))
end
end K01

set_option Elab.async false
set_option linter.all false
set_option maxRecDepth 100000
namespace K01
open PySem PySem.Spec PyProof.Rows L2 DL
section
variable {P : Program} {w : World} {K : PySem.W.Frag} {mg : Str → Option Value} {base : Heap}
abbrev N__law_source : List Str := ["_law_script", "_law_place", "_law_cell"]
theorem S__law_source : FnScope N__law_source ["_law_script", "_law_place"] (defScope s__law_source) := ⟨rfl, rfl, rfl, by decide +kernel, rfl, by decide +kernel, by decide +kernel⟩
def TSrc : List D → (D → Prop) → Prop := fun ds Q => ∃ (ns : List Int) (j : Nat), ds = [.scr ns, .int (j : Nat)] ∧ ∀ x y : Int, Q (.lst [.int x, .int y, .int 0])
theorem ok_law_source (T : TX K mg) : FnB P w K mg base 1 "_law_source" ["_law_script", "_law_place"] (spN K TSrc) := by
  obtain ⟨fd, F⟩ := T.F__law_source
  refine fn_N (k := 0) F T.g__law_source (fun _ _ _ _ _ _ us hl => match us, hl with | [_, _], _ => rfl) S__law_source (fun ds Qd h => by obtain ⟨ns, j, rfl, _⟩ := h; rfl) fun cdv A outer s H E hr => ⟨_, (pss_cons (ps_set (i := 2) S__law_source.nd rfl (by first | exact .inl rfl | exact .inr rfl) (pe_ifExp (pt_cmpR op_lt (pv 1) (pe_callB (klen (K := K) rfl) (by rfl) T.n_len (by decide +kernel) (pa_cons (pv 0) pa_nil)) (nomark _)) (pe_ix (kix (K := K) rfl) (pv 0) (pv 1) (fun _ _ => rfl)) (pe_op op_add (pe_op op_mul pe_int (pv 1)) pe_int)))
      (pss_one (ps_ret (pe_lst (pa_cons (pe_ifExp (pt_cmpR op_ge (pv 2) (pe_op op_pow pe_int pe_int) (nomark _)) (pv 2) pe_int) (pa_cons (pe_op op_mod (pe_callTy call_int1 (by rfl) T.n_int (by decide +kernel) (pa_cons (pv 2) pa_nil)) pe_int) (pa_cons pe_int pa_nil))))))), fun ds Qd h => ?_⟩
  obtain ⟨ns, j, rfl, q⟩ := h
  refine ws_seq <| ws_asg <| ew_weak (Q₁ := fun d ρ1 => ∃ c : Int, d = .int c ∧ ρ1 = envP N__law_source [D.scr ns, .int (j : Nat)]) ?_ ?_
  · refine ew_if <| et_test <| ew_op <| ew_var rfl <| ew_cb <| ea_cons <| ew_var rfl <| ea_nil <| opa_len_scr <| op2_cmp ⟨_, rfl, ite_b (fun h1 => ?_) (fun h1 => ?_)⟩
    · have hlt : j < ns.length := by have := of_decide_eq_true h1; omega
      exact ew_op <| ew_var rfl <| ew_var rfl <| op2_ix_scr (List.getElem?_eq_getElem hlt) ⟨_, rfl, rfl⟩
    · exact ew_op <| ew_op <| ew_int <| ew_var rfl <| op2_intC (.inl ⟨by decide, by decide⟩) <| ew_int <| op2_int ⟨_, rfl, rfl⟩
  rintro d ρ1 ⟨c, rfl, rfl⟩
  refine gw_name <| ws_retNew <| en_lst <| ea_cons <| ew_weak (Q₁ := fun d ρ1 => ∃ x : Int, d = .int x ∧ ρ1 = (envP N__law_source [D.scr ns, .int (j : Nat)]).set 2 (.sh (.int c))) ?_ ?_
  · exact ew_if <| et_test <| ew_op <| ew_var rfl <| ew_op <| ew_int <| ew_int <| op2_intC ⟨by decide, by decide, by decide⟩ <| op2_cmp ⟨_, rfl, ite_b (fun _ => ew_var rfl ⟨_, rfl, rfl⟩) (fun _ => ew_int ⟨_, rfl, rfl⟩)⟩
  rintro d ρ1 ⟨x, rfl, rfl⟩
  refine ea_cons <| ew_op <| ew_cb <| ea_cons <| ew_var rfl <| ea_nil <| opa_int <| ew_int <| op2_intC (by show (0 : Int) < 2147483629; decide) <| ea_cons <| ew_int <| ea_nil ⟨?_, q _ _⟩
  show 3 ≤ 100000
  decide
abbrev N__law_draw : List Str := ["_law_draws", "_law_many", "_law_found"]
theorem S__law_draw : FnScope N__law_draw ["_law_draws", "_law_many"] (defScope s__law_draw) := ⟨rfl, rfl, rfl, by decide +kernel, rfl, by decide +kernel, by decide +kernel⟩
def TDraw : List D → (D → Prop) → Prop := fun ds Q => ∃ m : Int, ds = [.int m] ∧ 0 < m ∧ m < 1073741824 ∧ ∀ r : Int, 0 ≤ r → r < m → Q (.int r)
theorem ok_law_draw (T : TX K mg) : FnB P w K mg base 1 "_law_draw" ["_law_draws", "_law_many"] (spW K TDraw) := by
  obtain ⟨fd, F⟩ := T.F__law_draw
  refine fn_W (k := 0) F T.g__law_draw (fun _ _ _ _ _ _ us hl => match us, hl with | [_, _], _ => rfl) S__law_draw (by decide) (fun ds Qd h => by obtain ⟨m, rfl, _⟩ := h; rfl) fun cdv A outer s H E hr => ⟨_, (pss_cons (ps_if (pt_cmpR op_gt (pe_ix (kix (K := K) rfl) (pv 0) pe_int (fun _ _ => rfl)) pe_int (nomark _)) (pss_cons (ps_set (i := 2) S__law_draw.nd rfl (by first | exact .inl rfl | exact .inr rfl) (pe_op op_mod (pe_callTy call_int1 (by rfl) T.n_int (by decide +kernel) (pa_cons (pe_ix (kix (K := K) rfl) (pv 0) pe_int (fun _ _ => rfl)) pa_nil)) (pv 1)))
      (pss_cons (ps_asg (pe_op op_fdiv (pe_ix (kix (K := K) rfl) (pv 0) pe_int (fun _ _ => rfl)) (pv 1)) (pg_sub (pv 0) pe_int set_list))
      (pss_one (ps_ret (pv 2))))) pss_nil)
      (pss_cons (ps_asg (pe_op op_add (pe_ix (kix (K := K) rfl) (pv 0) pe_int (fun _ _ => rfl)) pe_int) (pg_sub (pv 0) pe_int set_list))
      (pss_cons (ps_asg (pe_op op_mod (pe_callTy call_int1 (by rfl) T.n_int (by decide +kernel) (pa_cons (pe_op op_add (pe_op op_add (pe_op op_mul (pe_ix (kix (K := K) rfl) (pv 0) pe_int (fun _ _ => rfl)) pe_int) (pe_op op_mul (pe_ix (kix (K := K) rfl) (pv 0) pe_int (fun _ _ => rfl)) pe_int)) pe_int) pa_nil)) pe_int) (pg_sub (pv 0) pe_int set_list))
      (pss_one (ps_ret (pe_op op_mod (pe_callTy call_int1 (by rfl) T.n_int (by decide +kernel) (pa_cons (pe_op op_add (pe_op op_fdiv (pe_ix (kix (K := K) rfl) (pv 0) pe_int (fun _ _ => rfl)) pe_int) (pe_ix (kix (K := K) rfl) (pv 0) pe_int (fun _ _ => rfl))) pa_nil)) (pv 1))))))), fun a ds Qd h => ?_⟩
  obtain ⟨m, rfl, h0, h1, q⟩ := h
  have b3 : ∀ {j : Int}, j = 0 ∨ j = 1 ∨ j = 2 → 0 ≤ j ∧ j < 3 := fun h => by omega
  refine ws_seq <| ws_if <| et_test <| ew_op <| ew_drwix rfl (b3 (.inl rfl)) fun x => ew_int <| op2_cmp ⟨_, rfl, ite_b (fun _ => ?_) (fun _ => ws_next ?_)⟩
  · refine ws_seq <| ws_asg <| ew_op <| ew_cb <| ea_cons <| ew_drwix rfl (b3 (.inl rfl)) fun y => ea_nil <| opa_int <| ew_var rfl <| op2_intC h0 <| gw_name ?_
    refine ws_seq <| ws_drwset rfl (b3 (.inl rfl)) <| ew_op <| ew_drwix rfl (b3 (.inl rfl)) fun z => ew_var rfl <| op2_intC ⟨h0, h1⟩ ⟨_, rfl, rfl, ?_⟩
    exact ws_ret <| ew_var rfl ⟨rfl, q _ (Int.emod_nonneg _ (by omega)) (Int.emod_lt_of_pos _ h0)⟩
  · refine ws_seq <| ws_drwset rfl (b3 (.inr (.inr rfl))) <| ew_op <| ew_drwix rfl (b3 (.inr (.inr rfl))) fun z => ew_int <| op2_int ⟨_, rfl, rfl, ?_⟩
    refine ws_seq <| ws_drwset rfl (b3 (.inr (.inl rfl))) <| ew_op <| ew_cb <| ea_cons <| ew_op <| ew_op <| ew_op <| ew_drwix rfl (b3 (.inr (.inl rfl))) fun y => ew_int <| op2_intC (.inr ⟨by decide, by decide⟩) <| ew_op <| ew_drwix rfl (b3 (.inr (.inr rfl))) fun z => ew_int <| op2_intC (.inr ⟨by decide, by decide⟩) <| op2_int <| ew_int <| op2_int <| ea_nil <| opa_int <| ew_int <| op2_intC (by show (0 : Int) < 2147483629; decide) ⟨_, rfl, rfl, ?_⟩
    exact ws_ret <| ew_op <| ew_cb <| ea_cons <| ew_op <| ew_op <| ew_drwix rfl (b3 (.inr (.inl rfl))) fun y => ew_int <| op2_intC ⟨by decide, by decide⟩ <| ew_drwix rfl (b3 (.inr (.inl rfl))) fun z => op2_int <| ea_nil <| opa_int <| ew_var rfl <| op2_intC h0 ⟨rfl, q _ (Int.emod_nonneg _ (by omega)) (Int.emod_lt_of_pos _ h0)⟩
abbrev N__law_pick : List Str := ["_law_draws", "_law_xs"]
theorem S__law_pick : FnScope N__law_pick ["_law_draws", "_law_xs"] (defScope s__law_pick) := ⟨rfl, rfl, rfl, by decide +kernel, rfl, by decide +kernel, by decide +kernel⟩
def TPick : List D → (D → Prop) → Prop := fun ds Q => ∃ x xs, ds = [x] ∧ x.seq = some xs ∧ 0 < xs.length ∧ xs.length ≤ 100000 ∧ ∀ d ∈ xs, Q d
theorem ok_law_pick (T : TX K mg) : FnB P w K mg base 2 "_law_pick" ["_law_draws", "_law_xs"] (spW K TPick) := by
  obtain ⟨fd, F⟩ := T.F__law_pick
  have G__law_draw := ok_law_draw (P := P) (w := w) (base := base) T
  refine fn_W (k := 1) F T.g__law_pick (fun _ _ _ _ _ _ us hl => match us, hl with | [_, _], _ => rfl) S__law_pick (by decide) (fun ds Qd h => by obtain ⟨x, xs, rfl, _⟩ := h; rfl) fun cdv A outer s H E hr => ⟨_, (pss_one (ps_ret (pe_ix (kix (K := K) rfl) (pv 1) (pe_callF G__law_draw (hr.mono (by decide)) (pa_cons (pv 0) (pa_cons (pe_callB (klen (K := K) rfl) (by rfl) T.n_len (by decide +kernel) (pa_cons (pv 1) pa_nil)) pa_nil))) (fun _ _ => rfl)))), fun a ds Qd h => ?_⟩
  obtain ⟨x, xs, rfl, hx, h0, h1, q⟩ := h
  refine ws_ret <| ew_op <| ew_var rfl <| ew_callW rfl <| ea_cons <| ew_cb <| ea_cons <| ew_var rfl <| ea_nil <| opa_len hx <| ea_nil ⟨rfl, _, rfl, by omega, by omega, fun r hr0 hr1 => ?_⟩
  have hlt : r.toNat < xs.length := by omega
  have e : r = ((r.toNat : Nat) : Int) := by omega
  rw [e]
  exact op2_ix hx (atI_nat (List.getElem?_eq_getElem hlt)) ⟨rfl, q _ (List.getElem_mem hlt)⟩
abbrev N__law_same : List Str := ["_law_found", "_law_due", "_law_left", "_law_right"]
theorem S__law_same : FnScope N__law_same ["_law_found", "_law_due"] (defScope s__law_same) := ⟨rfl, rfl, rfl, by decide +kernel, rfl, by decide +kernel, by decide +kernel⟩
def TSame : List D → (D → Prop) → Prop := fun ds Q => ∃ a b : Bool, ds = [.bl a, .bl b] ∧ Q (.bl (decide (a = b)))
theorem never {x : Str} {ps : List Str} (at_ : mg x = some (.ref (He.ga K x))) (h : ∃ fd, Binds K fd ps []) (kp : PySem.W.keepIn K (.ref (He.ga K x)) = true) : True := trivial
theorem ok_law_same (T : TX K mg) : FnB P w K mg base 2 "_law_same" ["_law_found", "_law_due"] (spP K TSame) := by
  obtain ⟨fd, F⟩ := T.F__law_same
  have G__law_same : FnB P w K mg base 1 "_law_same" ["_law_found", "_law_due"] (spP K fun _ _ => False) :=
    fn_P (k := 0) F T.g__law_same (fun _ _ _ _ _ _ us hl => match us, hl with | [_, _], _ => rfl) S__law_same (fun ds Qd h => h.elim) fun cdv A outer s H E hr => ⟨fun _ _ _ => False, ⟨fun _ _ _ _ _ _ h => h.elim⟩, fun ds Qd h => h.elim⟩
  refine fn_P (k := 1) F T.g__law_same (fun _ _ _ _ _ _ us hl => match us, hl with | [_, _], _ => rfl) S__law_same (fun ds Qd h => by obtain ⟨a, b, rfl, _⟩ := h; rfl) fun cdv A outer s H E hr => ⟨_, (pss_cons (ps_if (pt_val (pe_callB (kisiT (K := K) rfl) (by rfl) T.n_isinstance (by decide +kernel) (pa_cons (pv 1) (pa_cons (pe_tup (pa_cons (pe_bltn (v := .ty "list") (by rfl) T.n_list (by decide +kernel) rfl) (pa_cons (pe_bltn (v := .ty "tuple") (by rfl) T.n_tuple (by decide +kernel) rfl) pa_nil))) pa_nil)))) (pss_cons (ps_if (PW.pt (pw_or (pt_cmpR op_ne (pe_callB (kisi (K := K) rfl) (by rfl) T.n_isinstance (by decide +kernel) (pa_cons (pv 0) (pa_cons (pe_bltn (v := .ty "list") (by rfl) T.n_list (by decide +kernel) rfl) pa_nil))) (pe_callB (kisi (K := K) rfl) (by rfl) T.n_isinstance (by decide +kernel) (pa_cons (pv 1) (pa_cons (pe_bltn (v := .ty "list") (by rfl) T.n_list (by decide +kernel) rfl) pa_nil))) (nomark _)) (pw_or1 (pt_cmpR op_ne (pe_callB (kisi (K := K) rfl) (by rfl) T.n_isinstance (by decide +kernel) (pa_cons (pv 0) (pa_cons (pe_bltn (v := .ty "tuple") (by rfl) T.n_tuple (by decide +kernel) rfl) pa_nil))) (pe_callB (kisi (K := K) rfl) (by rfl) T.n_isinstance (by decide +kernel) (pa_cons (pv 1) (pa_cons (pe_bltn (v := .ty "tuple") (by rfl) T.n_tuple (by decide +kernel) rfl) pa_nil))) (nomark _))))) (pss_one (ps_ret pe_bl)) pss_nil)
      (pss_one (ps_ret (pe_and (pe_cmpR op_eq (pe_callB (klen (K := K) rfl) (by rfl) T.n_len (by decide +kernel) (pa_cons (pv 0) pa_nil)) (pe_callB (klen (K := K) rfl) (by rfl) T.n_len (by decide +kernel) (pa_cons (pv 1) pa_nil)) (nomark _)) (pe_one (pe_callB (kall rfl (K := K) rfl) (by rfl) T.n_all (by decide +kernel) (pa_cons (pe_lc (own := [("_law_left", 2), ("_law_right", 3)]) rfl S__law_same.nd (kzip (K := K) rfl (by rfl) T.n_zip (pa_cons (pv 0) (pa_cons (pv 1) pa_nil))) (blkOk_by (own := [("_law_left", 2), ("_law_right", 3)]) (N := N__law_same) (sc := defScope s__law_same) (by decide +kernel)) (fun _ _ _ _ _ => (kgt (K := K) (n := 2) rfl rfl (pgs_cons (pg_name (i := 2) S__law_same.nd rfl (by first | exact .inl rfl | exact .inr rfl)) (pgs_cons (pg_name (i := 3) S__law_same.nd rfl (by first | exact .inl rfl | exact .inr rfl)) pgs_nil)))) (fun _ _ _ _ _ => pts_nil) (fun _ _ _ _ _ => (pe_callF G__law_same (hr.mono (by decide)) (pa_cons (pv 2) (pa_cons (pv 3) pa_nil))))) pa_nil))))))) pss_nil)
      (pss_cons (ps_if (pt_val (pe_callB (kisiT (K := K) rfl) (by rfl) T.n_isinstance (by decide +kernel) (pa_cons (pv 1) (pa_cons (pe_tup (pa_cons (pe_bltn (v := .ty "bool") (by rfl) T.n_bool (by decide +kernel) rfl) (pa_cons (pe_bltn (v := .ty "int") (by rfl) T.n_int (by decide +kernel) rfl) pa_nil))) pa_nil)))) (pss_one (ps_ret (pe_and (pe_callB (kisi (K := K) rfl) (by rfl) T.n_isinstance (by decide +kernel) (pa_cons (pv 0) (pa_cons (pe_bltn (v := .ty "int") (by rfl) T.n_int (by decide +kernel) rfl) pa_nil))) (pe_and (pe_cmpR op_eq (pe_callB (kisi (K := K) rfl) (by rfl) T.n_isinstance (by decide +kernel) (pa_cons (pv 0) (pa_cons (pe_bltn (v := .ty "bool") (by rfl) T.n_bool (by decide +kernel) rfl) pa_nil))) (pe_callB (kisi (K := K) rfl) (by rfl) T.n_isinstance (by decide +kernel) (pa_cons (pv 1) (pa_cons (pe_bltn (v := .ty "bool") (by rfl) T.n_bool (by decide +kernel) rfl) pa_nil))) (nomark _)) (pe_one (pe_cmpR op_eq (pv 0) (pv 1) (nomark _))))))) pss_nil)
      (pss_one (ps_ret (pe_and (pe_not (pe_callB (kisiT (K := K) rfl) (by rfl) T.n_isinstance (by decide +kernel) (pa_cons (pv 0) (pa_cons (pe_tup (pa_cons (pe_bltn (v := .ty "bool") (by rfl) T.n_bool (by decide +kernel) rfl) (pa_cons (pe_bltn (v := .ty "int") (by rfl) T.n_int (by decide +kernel) rfl) (pa_cons (pe_bltn (v := .ty "list") (by rfl) T.n_list (by decide +kernel) rfl) (pa_cons (pe_bltn (v := .ty "tuple") (by rfl) T.n_tuple (by decide +kernel) rfl) pa_nil))))) pa_nil)))) (pe_one (pe_cmpR op_eq (pv 0) (pv 1) (nomark _)))))))), fun ds Qd h => ?_⟩
  obtain ⟨a, b, rfl, q⟩ := h
  refine ws_seq <| ws_if <| et_B <| ew_isi2 (by decide) (by decide) <| ew_var rfl ⟨rfl, _, rfl, iteF <| ws_next ?_⟩
  refine ws_seq <| ws_if <| et_B <| ew_isi2 (by decide) (by decide) <| ew_var rfl ⟨rfl, _, rfl, iteT ?_⟩
  refine ws_ret <| ew_andV <| ew_isi (by decide) <| ew_var rfl ⟨rfl, _, rfl, iteT ?_⟩
  refine ew_andV <| ew_op <| ew_isi (by decide) <| ew_var rfl ⟨rfl, ew_isi (by decide) <| ew_var rfl ⟨rfl, op2_eq_bl ⟨_, rfl, iteT ?_⟩⟩⟩
  exact ew_op <| ew_var rfl <| ew_var rfl <| op2_eq_bl q
end
end K01

set_option Elab.async false
set_option linter.all false
set_option maxRecDepth 100000
namespace K01
open PySem PySem.Spec PyProof.Rows L2 DL
/-! ### drawn ranks -/
def menuS : List Str := ["red", "blue", "k9", "a"]
def wordsD : List D := [.tup [], .tup [.str "points"], .tup [.str "home"], .tup [.str "few", .str "late"], .tup [.str "home", .str "points"], .tup [.str "late"], .tup [.str "early"]]
def Ranks (ps : List (Key × D)) : Prop := ∃ ks : List Str, ps.map (·.1) = ks.map Sum.inr ∧ 0 < ks.length ∧ ks.length ≤ 4 ∧ ks.Nodup ∧ (∀ k ∈ ks, k ∈ menuS) ∧ ∀ d ∈ ps.map (·.2), d ∈ wordsD
theorem menu_ok : ∀ x ∈ menuS, PyData.strOk x = true ∧ x.length ≤ 1000 := by decide +kernel
theorem dput_new {ps : List (Key × D)} {ks : List Str} {k : Str} {d : D} (h : ps.map (·.1) = ks.map Sum.inr) (hk : k ∉ ks) : dput ps (Sum.inr k) d = ps ++ [(Sum.inr k, d)] := by
  unfold dput
  rw [if_neg]
  intro z
  obtain ⟨kv, h1, h2⟩ := List.any_eq_true.mp z
  have h3 : kv.1 ∈ ps.map (·.1) := List.mem_map_of_mem h1
  rw [h, of_decide_eq_true h2] at h3
  obtain ⟨x, hx, e⟩ := List.mem_map.mp h3
  cases e
  exact hk hx
theorem erase_facts {ms : List Str} {j : Nat} {y : Str} (h : ms[j]? = some y) (nd : ms.Nodup) : (ms.eraseIdx j).length + 1 = ms.length ∧ y ∉ ms.eraseIdx j ∧ (ms.eraseIdx j).Nodup ∧ (∀ x ∈ ms.eraseIdx j, x ∈ ms) ∧ y ∈ ms := by
  have hl := (List.getElem?_eq_some_iff.mp h).1
  refine ⟨by rw [List.length_eraseIdx_of_lt hl]; omega, ?_, nd.sublist (List.eraseIdx_sublist ms j), fun x hx => (List.eraseIdx_sublist ms j).subset hx, List.mem_of_getElem? h⟩
  intro m
  obtain ⟨i, hi⟩ := List.mem_iff_getElem?.mp m
  rw [List.getElem?_eraseIdx] at hi
  split at hi
  · have := (List.getElem?_inj hl nd).mp (h.trans hi.symm); omega
  · have := (List.getElem?_inj hl nd).mp (h.trans hi.symm); omega
section
variable {P : Program} {w : World} {K : PySem.W.Frag} {mg : Str → Option Value} {base : Heap}
abbrev N__law_some_ranks : List Str := ["_law_draws", "_law_most", "_law_menu", "_law_found", "_law_words", "_law_k"]
theorem S__law_some_ranks : FnScope N__law_some_ranks ["_law_draws", "_law_most"] (defScope s__law_some_ranks) := ⟨rfl, rfl, rfl, by decide +kernel, rfl, by decide +kernel, by decide +kernel⟩
def TRanks : List D → (D → Prop) → Prop := fun ds Q => ds = [.int 4] ∧ ∀ ps, Ranks ps → Q (.dk ps)
def InvR (a p q : Addr) (ws : List D) (i : Nat) (ρ : DL.Env) : Prop := ∃ (ms ks : List Str) (ps : List (Key × D)) (s : Sl), ρ = [.drw a, .sh (.int 4), .own p (.lst (strsD ms)), .own q (.dk ps), .sh (.lst ws), s] ∧ s.adr = [] ∧
  ks.length = i ∧ ms.length + i = 4 ∧ ms.Nodup ∧ ks.Nodup ∧ (∀ k ∈ ks, k ∈ menuS ∧ k ∉ ms) ∧ (∀ m ∈ ms, m ∈ menuS) ∧ ps.map (·.1) = ks.map Sum.inr ∧ ∀ d ∈ ps.map (·.2), d ∈ ws
theorem strsD_len (xs : List Str) : (strsD xs).length = xs.length := List.length_map ..
theorem strsD_at {xs : List Str} {i : Nat} {x : Str} (h : xs[i]? = some x) : (strsD xs)[i]? = some (.str x) := by
  unfold strsD; rw [List.getElem?_map, h]; rfl
theorem strsD_erase (xs : List Str) (i : Nat) : (strsD xs).eraseIdx i = strsD (xs.eraseIdx i) := by
  unfold strsD
  induction xs generalizing i with
  | nil => rfl
  | cons x xs ih => cases i with
    | zero => rfl
    | succ i => simp only [List.map_cons, List.eraseIdx_cons_succ]; rw [ih]
theorem ok_law_some_ranks (T : TX K mg) : FnB P w K mg base 3 "_law_some_ranks" ["_law_draws", "_law_most"] (spW K TRanks) := by
  obtain ⟨fd, F⟩ := T.F__law_some_ranks
  have G__law_draw := ok_law_draw (P := P) (w := w) (base := base) T
  have G__law_pick := ok_law_pick (P := P) (w := w) (base := base) T
  refine fn_W (k := 2) F T.g__law_some_ranks (fun _ _ _ _ _ _ us hl => match us, hl with | [_, _], _ => rfl) S__law_some_ranks (by decide) (fun ds Qd h => by obtain ⟨rfl, _⟩ := h; rfl) fun cdv A outer s H E hr => ⟨_, (pss_cons (ps_par (i := 2) (j := 3) (by rfl) S__law_some_ranks.nd rfl rfl (by decide) (by rfl) (by rfl) (pa_cons (pe_lst (pa_cons pe_str (pa_cons pe_str (pa_cons pe_str (pa_cons pe_str pa_nil))))) (pa_cons pe_dnewK pa_nil)) (by rfl))
      (pss_cons (ps_set (i := 4) S__law_some_ranks.nd rfl (by first | exact .inl rfl | exact .inr rfl) (pe_lst (pa_cons (pe_tup pa_nil) (pa_cons (pe_tup (pa_cons pe_str pa_nil)) (pa_cons (pe_tup (pa_cons pe_str pa_nil)) (pa_cons (pe_tup (pa_cons pe_str (pa_cons pe_str pa_nil))) (pa_cons (pe_tup (pa_cons pe_str (pa_cons pe_str pa_nil))) (pa_cons (pe_tup (pa_cons pe_str pa_nil)) (pa_cons (pe_tup (pa_cons pe_str pa_nil)) pa_nil)))))))))
      (pss_cons (ps_for PassesOwn.never rfl (pi_range1 (by rfl) T.n_range (pa_cons (pe_op op_add pe_int (pe_callF G__law_draw (hr.mono (by decide)) (pa_cons (pv 0) (pa_cons (pv 1) pa_nil)))) pa_nil)) (pg_name (i := 5) S__law_some_ranks.nd rfl (by first | exact .inl rfl | exact .inr rfl))
      (pss_one (ps_dput (hu_of hr) (pv 3) (kbm (K := K) (id := "") rfl (pe_bm PySem.F.plainAttrs_list PySem.F.slot_list_pop PySem.F.type_list_pop mt_popAt (pv 2) (pa_cons (pe_callF G__law_draw (hr.mono (by decide)) (pa_cons (pv 0) (pa_cons (pe_callB (klen (K := K) rfl) (by rfl) T.n_len (by decide +kernel) (pa_cons (pv 2) pa_nil)) pa_nil))) pa_nil))) (pe_callF G__law_pick (hr.mono (by decide)) (pa_cons (pv 0) (pa_cons (pv 4) pa_nil))) rfl)))
      (pss_one (ps_ret (pv 3)))))), fun a ds Qd h => ?_⟩
  obtain ⟨rfl, q⟩ := h
  refine ws_seq <| ws_parNN (by decide) <| en_lst <| ea_cons <| ew_str <| ea_cons <| ew_str <| ea_cons <| ew_str <| ea_cons <| ew_str <| ea_nil ⟨by show 4 ≤ 100000; decide, en_dnewK fun p0 q0 => ?_⟩
  have l1 : ([D.str "points"] : List D).length ≤ 100000 := by show 1 ≤ 100000; decide
  refine ws_seq <| ws_asg <| ew_new <| en_lst <| ea_cons <| ew_tup <| ea_nil ⟨by show 0 ≤ 100000; decide, ?_⟩
  refine ea_cons <| ew_tup <| ea_cons <| ew_str <| ea_nil ⟨l1, ?_⟩
  refine ea_cons <| ew_tup <| ea_cons <| ew_str <| ea_nil ⟨l1, ?_⟩
  refine ea_cons <| ew_tup <| ea_cons <| ew_str <| ea_cons <| ew_str <| ea_nil ⟨by show 2 ≤ 100000; decide, ?_⟩
  refine ea_cons <| ew_tup <| ea_cons <| ew_str <| ea_cons <| ew_str <| ea_nil ⟨by show 2 ≤ 100000; decide, ?_⟩
  refine ea_cons <| ew_tup <| ea_cons <| ew_str <| ea_nil ⟨l1, ?_⟩
  refine ea_cons <| ew_tup <| ea_cons <| ew_str <| ea_nil ⟨l1, ?_⟩
  refine ea_nil ⟨by show 7 ≤ 100000; decide, gw_name ?_⟩
  refine ws_seq <| ws_for <| ei_range1 <| ea_cons <| ew_op <| ew_int <| ew_callW rfl <| ea_cons <| ew_var rfl <| ea_nil ⟨rfl, 4, rfl, by decide, by decide, fun r h0 h1 => op2_int <| ea_nil ⟨1 + r, rfl, by omega, by omega, fun i ρ => i ≤ 4 ∧ InvR a p0 q0 wordsD i ρ, ⟨by omega, menuS, [], [], .un, rfl, rfl, rfl, rfl, by decide +kernel, List.nodup_nil, fun k m => (nomatch m), fun m h => h, rfl, fun d m => (nomatch m)⟩, ?_, ?_⟩⟩
  · rintro i d ρ' hd ⟨hi4, ms, ks, ps, s0, rfl, hs0, hks, hms, nms, nks, hk, hm, hps, hv⟩
    have hi : i < (1 + r).toNat := by
      have := (List.getElem?_eq_some_iff.mp hd).1
      simpa using this
    refine gw_name <| ws_dput (i := 3) (a := q0) <| ew_callW rfl <| ea_cons <| ew_var rfl <| ea_nil ⟨rfl, _, _, rfl, rfl, by show 0 < 7; decide, by show 7 ≤ 100000; decide, fun wd hwd => ⟨⟨_, rfl⟩, ?_⟩⟩
    refine ew_popAt rfl <| ew_callW rfl <| ea_cons <| ew_peek <| ew_cb <| ea_cons <| ew_var rfl <| ea_nil <| opa_len rfl ⟨rfl, rfl, ea_nil ⟨rfl, _, rfl, by rw [strsD_len]; omega, by rw [strsD_len]; omega, fun r1 z0 z1 => ?_⟩⟩
    rw [strsD_len] at z1
    have hlt : r1.toNat < ms.length := by omega
    obtain ⟨e1, e2, e3, e4, e5⟩ := erase_facts (List.getElem?_eq_getElem hlt) nms
    refine ⟨_, r1, _, rfl, rfl, z0, by omega, strsD_at (List.getElem?_eq_getElem hlt), Sum.inr ms[r1.toNat], ps, rfl, rfl, ?_, ?_⟩
    · have := congrArg List.length hps
      simp at this; omega
    · have hnk : ms[r1.toNat] ∉ ks := fun z => (hk _ z).2 e5
      refine ⟨by omega, ms.eraseIdx r1.toNat, ks ++ [ms[r1.toNat]], ps ++ [(Sum.inr ms[r1.toNat], wd)], .sh d, ?_, rfl, by simp [hks], by omega, e3, ?_, ?_, fun m z => hm m (e4 m z), ?_, ?_⟩
      · rw [strsD_erase, dput_new hps hnk]; rfl
      · rw [List.nodup_append]
        exact ⟨nks, by simp, fun x hx y hy => by rw [List.mem_singleton.mp hy]; exact fun z => hnk (z ▸ hx)⟩
      · intro k hk'
        rcases List.mem_append.mp hk' with z | z
        · exact ⟨(hk k z).1, fun y => (hk k z).2 (e4 _ y)⟩
        · rw [List.mem_singleton.mp z]; exact ⟨hm _ e5, e2⟩
      · rw [List.map_append, List.map_append, hps]; rfl
      · intro d' hd'
        rw [List.map_append] at hd'
        rcases List.mem_append.mp hd' with z | z
        · exact hv d' z
        · rw [List.mem_singleton.mp z]; exact hwd
  · rintro ρ' ⟨hi4, ms, ks, ps, s0, rfl, hs0, hks, hms, nms, nks, hk, hm, hps, hv⟩
    have hl : ks.length = (1 + r).toNat := by rw [hks]; simp
    exact ws_retO rfl ⟨rfl, q ps ⟨ks, hps, by omega, by omega, nks, fun k z => (hk k z).1, hv⟩⟩
end
end K01

set_option Elab.async false
set_option linter.all false
set_option maxRecDepth 100000
namespace K01
open PySem PySem.Spec PyProof.Rows L2 DL
section
variable {P : Program} {w : World} {K : PySem.W.Frag} {mg : Str → Option Value} {base : Heap}
abbrev N__law_some_wishes : List Str := ["_law_draws", "_law_kinds", "_law_left", "_law_found", "_law_k"]
theorem S__law_some_wishes : FnScope N__law_some_wishes ["_law_draws", "_law_kinds"] (defScope s__law_some_wishes) := ⟨rfl, rfl, rfl, by decide +kernel, rfl, by decide +kernel, by decide +kernel⟩
def TWishes : List D → (D → Prop) → Prop := fun ds Q => ∃ ps, ds = [.dk ps] ∧ Ranks ps ∧ ∀ d, Ok d → Q d
def InvW (a p q : Addr) (ps : List (Key × D)) (i : Nat) (ρ : DL.Env) : Prop := ∃ (ms : List Str) (fs : List D) (s : Sl), ρ = [.drw a, .sh (.dk ps), .own p (.lst (strsD ms)), .own q (.lst fs), s] ∧ s.adr = [] ∧
  ms.length ≤ 4 ∧ (∀ m ∈ ms, m ∈ menuS) ∧ fs.length ≤ i ∧ ∀ f ∈ fs, Ok f
theorem erase_len {α : Type} (ms : List α) (j : Nat) : (ms.eraseIdx j).length ≤ ms.length := (List.eraseIdx_sublist ms j).length_le
theorem ok_law_some_wishes (T : TX K mg) : FnB P w K mg base 2 "_law_some_wishes" ["_law_draws", "_law_kinds"] (spW K TWishes) := by
  obtain ⟨fd, F⟩ := T.F__law_some_wishes
  have G__law_draw := ok_law_draw (P := P) (w := w) (base := base) T
  refine fn_W (k := 1) F T.g__law_some_wishes (fun _ _ _ _ _ _ us hl => match us, hl with | [_, _], _ => rfl) S__law_some_wishes (by decide) (fun ds Qd h => by obtain ⟨ps, rfl, _⟩ := h; rfl) fun cdv A outer s H E hr => ⟨_, (pss_cons (ps_par (i := 2) (j := 3) (by rfl) S__law_some_wishes.nd rfl rfl (by decide) (by rfl) (by rfl) (pa_cons (pe_callB (csortD rfl) (by rfl) T.n_sorted (by decide +kernel) (pa_cons (pv 1) pa_nil)) (pa_cons (pe_lst pa_nil) pa_nil)) (by rfl))
      (pss_cons (ps_for PassesOwn.never rfl (pi_range1 (by rfl) T.n_range (pa_cons (pe_ix (kix (K := K) rfl) (pe_lst (pa_cons pe_int (pa_cons pe_int (pa_cons pe_int (pa_cons pe_int (pa_cons pe_int (pa_cons pe_int (pa_cons pe_int pa_nil)))))))) (pe_callF G__law_draw (hr.mono (by decide)) (pa_cons (pv 0) (pa_cons pe_int pa_nil))) (fun _ _ => rfl)) pa_nil)) (pg_name (i := 4) S__law_some_wishes.nd rfl (by first | exact .inl rfl | exact .inr rfl))
      (pss_one (ps_if (pt_cmpR (kneD (K := K) rfl hr.units) (pv 2) (pe_lst pa_nil) (nomark _)) (pss_one (ps_expr (kbm (K := K) (id := "") rfl (pe_bm PySem.F.plainAttrs_list PySem.F.slot_list_append PySem.F.type_list_append mt_append (pv 3) (pa_cons (kbm (K := K) (id := "") rfl (pe_bm PySem.F.plainAttrs_list PySem.F.slot_list_pop PySem.F.type_list_pop mt_popAt (pv 2) (pa_cons (pe_callF G__law_draw (hr.mono (by decide)) (pa_cons (pv 0) (pa_cons (pe_callB (klen (K := K) rfl) (by rfl) T.n_len (by decide +kernel) (pa_cons (pv 2) pa_nil)) pa_nil))) pa_nil))) pa_nil))))) pss_nil)))
      (pss_one (ps_ret (pe_callTy (ktuple (K := K) rfl) (by rfl) T.n_tuple (by decide +kernel) (pa_cons (pv 3) pa_nil)))))), fun a ds Qd h => ?_⟩
  obtain ⟨ps, rfl, ⟨ks, hks, hk0, hk4, hkn, hkm, hkv⟩, q⟩ := h
  refine ws_seq <| ws_parNN (by decide) <| en_cb <| ea_cons <| ew_var rfl <| ea_nil <| opn_sortD hks (by omega) fun ys hp hs => en_lst <| ea_nil ⟨by show 0 ≤ 100000; decide, fun p0 q0 => ?_⟩
  have hys : ys.length ≤ 4 := by rw [hp.length_eq]; exact hk4
  have hym : ∀ m ∈ ys, m ∈ menuS := fun m z => hkm m (hp.mem_iff.mp z)
  refine ws_seq <| ws_for <| ei_range1 <| ea_cons <| ew_op <| ew_new <| en_lst <| ea_cons <| ew_int <| ea_cons <| ew_int <| ea_cons <| ew_int <| ea_cons <| ew_int <| ea_cons <| ew_int <| ea_cons <| ew_int <| ea_cons <| ew_int <| ea_nil ⟨by show 7 ≤ 100000; decide, ?_⟩
  refine ew_callW rfl <| ea_cons <| ew_int <| ea_nil ⟨rfl, 7, rfl, by decide, by decide, fun r h0 h1 => ?_⟩
  obtain ⟨n, hn, hat⟩ : ∃ n : Nat, n ≤ 4 ∧ atI ([.int 0, .int 1, .int 1, .int 2, .int 2, .int 3, .int 4] : List D) r = some (.int (n : Nat)) := by
    have : r = 0 ∨ r = 1 ∨ r = 2 ∨ r = 3 ∨ r = 4 ∨ r = 5 ∨ r = 6 := by omega
    rcases this with rfl | rfl | rfl | rfl | rfl | rfl | rfl
    · exact ⟨0, by decide, rfl⟩
    · exact ⟨1, by decide, rfl⟩
    · exact ⟨1, by decide, rfl⟩
    · exact ⟨2, by decide, rfl⟩
    · exact ⟨2, by decide, rfl⟩
    · exact ⟨3, by decide, rfl⟩
    · exact ⟨4, by decide, rfl⟩
  refine op2_ix rfl hat <| ea_nil ⟨n, rfl, by omega, by omega, fun i ρ => i ≤ n ∧ InvW a p0 q0 ps i ρ, ⟨by omega, ys, [], .un, rfl, rfl, hys, hym, Nat.le_refl _, fun d m => (nomatch m)⟩, ?_, ?_⟩
  · rintro i d ρ' hd ⟨hin, ms, fs, s0, rfl, hs0, hms, hmm, hfl, hfo⟩
    have hi : i < n := by
      have := (List.getElem?_eq_some_iff.mp hd).1
      simpa using this
    refine gw_name <| ws_if <| et_peek <| et_test <| ew_op <| ew_var rfl <| ew_new <| en_lst <| ea_nil ⟨by show 0 ≤ 100000; decide, op2_ne_nil (fun x z => (menu_ok x (hmm x z)).1) ⟨_, rfl, rfl, ite_b (fun hb => ?_) (fun hb => ws_next ⟨by omega, ms, fs, .sh d, rfl, rfl, hms, hmm, by omega, hfo⟩)⟩⟩
    have hms0 : 0 < ms.length := by
      cases ms with
      | nil => simp at hb
      | cons _ _ => simp
    refine ws_drop <| ew_append rfl <| ew_popAt rfl <| ew_callW rfl <| ea_cons <| ew_peek <| ew_cb <| ea_cons <| ew_var rfl <| ea_nil <| opa_len rfl ⟨rfl, rfl, ea_nil ⟨rfl, _, rfl, by rw [strsD_len]; omega, by rw [strsD_len]; omega, fun r1 z0 z1 => ?_⟩⟩
    rw [strsD_len] at z1
    have hlt : r1.toNat < ms.length := by omega
    refine ⟨_, r1, _, rfl, rfl, z0, by omega, strsD_at (List.getElem?_eq_getElem hlt), fs, rfl, by omega, by omega, ms.eraseIdx r1.toNat, fs ++ [.str ms[r1.toNat]], .sh d, ?_, rfl, ?_, ?_, by simp; omega, ?_⟩
    · rw [strsD_erase]; rfl
    · exact Nat.le_trans (erase_len _ _) hms
    · exact fun m z => hmm m ((List.eraseIdx_sublist ms _).subset z)
    · intro f hf
      rcases List.mem_append.mp hf with z | z
      · exact hfo f z
      · rw [List.mem_singleton.mp z]; exact .str (menu_ok _ (hmm _ (List.getElem_mem hlt))).2
  · rintro ρ' ⟨hin, ms, fs, s0, rfl, hs0, hms, hmm, hfl, hfo⟩
    refine ws_ret <| ew_cb <| ea_cons <| ew_give rfl <| ea_nil <| opa_tuple rfl ⟨rfl, q _ (.tup ?_ hfo)⟩
    have : fs.length ≤ n := by simpa using hfl
    omega
abbrev N__law_some_come : List Str := ["_law_draws", "_law_ranks", "_law_name", "_law_home"]
theorem S__law_some_come : FnScope N__law_some_come ["_law_draws", "_law_ranks", "_law_name"] (defScope s__law_some_come) := ⟨rfl, rfl, rfl, by decide +kernel, rfl, by decide +kernel, by decide +kernel⟩
def Event (d : D) : Prop := ∃ xs, d = .tup xs ∧ 1 ≤ xs.length ∧ xs.length ≤ 5 ∧ ∀ x ∈ xs, Ok x
def TCome : List D → (D → Prop) → Prop := fun ds Q => ∃ ps n, ds = [.dk ps, n] ∧ Ranks ps ∧ Ok n ∧ ∀ d, Event d → Q d
theorem ok_law_some_come (T : TX K mg) : FnB P w K mg base 3 "_law_some_come" ["_law_draws", "_law_ranks", "_law_name"] (spW K TCome) := by
  obtain ⟨fd, F⟩ := T.F__law_some_come
  have G__law_pick := ok_law_pick (P := P) (w := w) (base := base) T
  have G__law_some_wishes := ok_law_some_wishes (P := P) (w := w) (base := base) T
  refine fn_W (k := 2) F T.g__law_some_come (fun _ _ _ _ _ _ us hl => match us, hl with | [_, _, _], _ => rfl) S__law_some_come (by decide) (fun ds Qd h => by obtain ⟨ps, n, rfl, _⟩ := h; rfl) fun cdv A outer s H E hr => ⟨_, (pss_cons (ps_set (i := 3) S__law_some_come.nd rfl (by first | exact .inl rfl | exact .inr rfl) (pe_callF G__law_pick (hr.mono (by decide)) (pa_cons (pv 0) (pa_cons (pe_op op_cat (pe_lst (pa_cons pe_non pa_nil)) (pe_callB (csortD rfl) (by rfl) T.n_sorted (by decide +kernel) (pa_cons (pv 1) pa_nil))) pa_nil))))
      (pss_one (ps_ret (pe_tup (pa_cons pe_str (pa_cons (pv 2) (pa_cons (pe_callF G__law_some_wishes (hr.mono (by decide)) (pa_cons (pv 0) (pa_cons (pv 1) pa_nil))) (pa_cons (pe_callF G__law_pick (hr.mono (by decide)) (pa_cons (pv 0) (pa_cons (pe_lst (pa_cons pe_int (pa_cons pe_int (pa_cons pe_int (pa_cons pe_int pa_nil))))) pa_nil))) (pa_cons (pv 3) pa_nil))))))))), fun a ds Qd h => ?_⟩
  obtain ⟨ps, n, rfl, hR, hn, q⟩ := h
  obtain ⟨ks, hks, hk0, hk4, hkn, hkm, hkv⟩ := id hR
  refine ws_seq <| ws_asg <| ew_callW rfl <| ea_cons <| ew_new <| en_cat <| ew_new <| en_lst <| ea_cons <| ew_non <| ea_nil ⟨by show 1 ≤ 100000; decide, ?_⟩
  refine ew_new <| en_cb <| ea_cons <| ew_var rfl <| ea_nil <| opn_sortD hks (by omega) fun ys hp hs => ⟨_, _, rfl, rfl, ?_, ea_nil ⟨rfl, _, _, rfl, rfl, ?_, ?_, fun hm hhm => gw_name ?_⟩⟩
  · rw [strsD_len, hp.length_eq]; show 1 + _ ≤ _; omega
  · simp
  · simp [strsD_len, hp.length_eq]; omega
  have hmo : Ok hm := by
    rcases List.mem_append.mp hhm with z | z
    · rw [List.mem_singleton.mp z]; exact .non
    · obtain ⟨x, hx, rfl⟩ := List.mem_map.mp z
      exact .str (menu_ok x (hkm x (hp.mem_iff.mp hx))).2
  refine ws_ret <| ew_tup <| ea_cons <| ew_str <| ea_cons <| ew_var rfl <| ea_cons <| ew_callW rfl <| ea_cons <| ew_var rfl <| ea_nil ⟨rfl, ps, rfl, hR, fun wd hwd => ?_⟩
  refine ea_cons <| ew_callW rfl <| ea_cons <| ew_new <| en_lst <| ea_cons <| ew_int <| ea_cons <| ew_int <| ea_cons <| ew_int <| ea_cons <| ew_int <| ea_nil ⟨by show 4 ≤ 100000; decide, ea_nil ⟨rfl, _, _, rfl, rfl, by show 0 < 4; decide, by show 4 ≤ 100000; decide, fun pt hpt => ?_⟩⟩
  have hpo : Ok pt := by
    simp only [List.mem_cons, List.not_mem_nil, or_false] at hpt
    rcases hpt with rfl | rfl | rfl | rfl <;> exact .int _
  refine ea_cons <| ew_var rfl <| ea_nil ⟨by show 5 ≤ 100000; decide, rfl, q _ ⟨_, rfl, by show 1 ≤ 5; decide, by show 5 ≤ 5; decide, ?_⟩⟩
  intro x hx
  simp only [List.mem_cons, List.not_mem_nil, or_false] at hx
  rcases hx with rfl | rfl | rfl | rfl | rfl
  · exact .str (by decide +kernel)
  · exact hn
  · exact hwd
  · exact hpo
  · exact hmo
end
end K01

set_option Elab.async false
set_option linter.all false
set_option maxRecDepth 100000
namespace K01
open PySem PySem.Spec PyProof.Rows L2 DL
theorem op1_neg {K : PySem.W.Frag} {i : Int} {ρ : DL.Env} {Q : D → DL.Env → Prop} (q : Q (.int (-i)) ρ) : Op1 K (rU fun i => .int (-i)) (.int i) ρ Q := fun F G H σ R v hv Q' k => by
  rw [rep_int hv]
  exact ⟨i, rfl, k _ _ ρ G H (Ex.refl G) R (.int _) q⟩
def namesS : List Str := ["bob", "ann", "c1", "dora", "e", "fay", "gus", "hal"]
theorem names_ok : ∀ x ∈ namesS, PyData.strOk x = true ∧ x.length ≤ 1000 := by decide +kernel
def JN (xs ys : List Str) : Prop := (∀ x ∈ xs, x ∈ namesS) ∧ (∀ y ∈ ys, y ∈ namesS) ∧ xs.length + ys.length = 8
theorem ok_strs {xs ns : List Str} (h : ∀ x ∈ xs, x ∈ ns) (hn : ∀ x ∈ ns, PyData.strOk x = true ∧ x.length ≤ 1000) : ∀ d ∈ strsD xs, Ok d := fun d hd => by
  obtain ⟨x, hx, rfl⟩ := List.mem_map.mp hd
  exact .str (hn x (h x hx)).2
theorem ev1 {x : D} (hx : Ok x) : Event (.tup [x]) := ⟨_, rfl, by show 1 ≤ 1; decide, by show 1 ≤ 5; decide, fun y hy => by rw [List.mem_singleton.mp hy]; exact hx⟩
theorem ev2 {x y : D} (hx : Ok x) (hy : Ok y) : Event (.tup [x, y]) := ⟨_, rfl, by show 1 ≤ 2; decide, by show 2 ≤ 5; decide, fun z hz => by
  simp only [List.mem_cons, List.not_mem_nil, or_false] at hz
  rcases hz with rfl | rfl
  · exact hx
  · exact hy⟩
theorem ev3 {x y u : D} (hx : Ok x) (hy : Ok y) (hu : Ok u) : Event (.tup [x, y, u]) := ⟨_, rfl, by show 1 ≤ 3; decide, by show 3 ≤ 5; decide, fun z hz => by
  simp only [List.mem_cons, List.not_mem_nil, or_false] at hz
  rcases hz with rfl | rfl | rfl
  · exact hx
  · exact hy
  · exact hu⟩
theorem okS {x : Str} (h : decide (x.length ≤ 1000) = true) : Ok (.str x) := .str (of_decide_eq_true h)
section
variable {P : Program} {w : World} {K : PySem.W.Frag} {mg : Str → Option Value} {base : Heap}
abbrev N__law_some_event : List Str := ["_law_draws", "_law_ranks", "_law_names", "_law_rounds", "_law_known", "_law_more", "_law_choice"]
theorem S__law_some_event : FnScope N__law_some_event ["_law_draws", "_law_ranks", "_law_names", "_law_rounds"] (defScope s__law_some_event) := ⟨rfl, rfl, rfl, by decide +kernel, rfl, by decide +kernel, by decide +kernel⟩
def TEvt : List D → (D → Prop) → Prop := fun ds Q => ∃ ps b, ds = [.dk ps, .bl b] ∧ Ranks ps ∧ ∀ d, Event d → Q d
theorem ok_law_some_event (T : TX K mg) : FnB P w K mg base 4 "_law_some_event" ["_law_draws", "_law_ranks", "_law_names", "_law_rounds"] (spE K JN TEvt) := by
  obtain ⟨fd, F⟩ := T.F__law_some_event
  have G__law_draw := ok_law_draw (P := P) (w := w) (base := base) T
  have G__law_pick := ok_law_pick (P := P) (w := w) (base := base) T
  have G__law_some_wishes := ok_law_some_wishes (P := P) (w := w) (base := base) T
  have G__law_some_come := ok_law_some_come (P := P) (w := w) (base := base) T
  refine fn_E (k := 3) (n := 3) (i := 4) (j := 5) F T.g__law_some_event (fun _ _ _ _ _ _ us hl => match us, hl with | [_, _, _, _], _ => rfl) S__law_some_event rfl rfl fun cdv A outer s H E hr => ⟨_, (pss_cons (ps_asg (pv 2) (kgt (K := K) (n := 2) rfl rfl (pgs_cons (pg_name (i := 4) S__law_some_event.nd rfl (by first | exact .inl rfl | exact .inr rfl)) (pgs_cons (pg_name (i := 5) S__law_some_event.nd rfl (by first | exact .inl rfl | exact .inr rfl)) pgs_nil))))
      (pss_cons (ps_set (i := 6) S__law_some_event.nd rfl (by first | exact .inl rfl | exact .inr rfl) (pe_callF G__law_draw (hr.mono (by decide)) (pa_cons (pv 0) (pa_cons pe_int pa_nil))))
      (pss_cons (ps_if (PW.pt (pw_and (pt_cmpR op_lt (pv 6) pe_int (nomark _)) (pw_and1 (pt_cmpR (kneD (K := K) rfl hr.units) (pv 5) (pe_lst pa_nil) (nomark _))))) (pss_cons (ps_expr (kbm (K := K) (id := "") rfl (pe_bm PySem.F.plainAttrs_list PySem.F.slot_list_append PySem.F.type_list_append mt_append (pv 4) (pa_cons (kbm (K := K) (id := "") rfl (pe_bm PySem.F.plainAttrs_list PySem.F.slot_list_pop PySem.F.type_list_pop mt_popAt (pv 5) (pa_cons pe_int pa_nil))) pa_nil))))
      (pss_one (ps_ret (pe_callF G__law_some_come (hr.mono (by decide)) (pa_cons (pv 0) (pa_cons (pv 1) (pa_cons (pe_ix (kix (K := K) rfl) (pv 4) (pe_un un_neg pe_int) (fun _ _ => rfl)) pa_nil))))))) pss_nil)
      (pss_cons (ps_if (pt_cmpR op_lt (pv 6) pe_int (nomark _)) (pss_one (ps_ret (pe_tup (pa_cons pe_str (pa_cons (pe_callF G__law_pick (hr.mono (by decide)) (pa_cons (pv 0) (pa_cons (pe_callB (csortD rfl) (by rfl) T.n_sorted (by decide +kernel) (pa_cons (pv 1) pa_nil)) pa_nil))) pa_nil))))) pss_nil)
      (pss_cons (ps_if (pt_cmpR op_eq (pv 6) pe_int (nomark _)) (pss_one (ps_ret (pe_tup (pa_cons pe_str (pa_cons (pe_callF G__law_pick (hr.mono (by decide)) (pa_cons (pv 0) (pa_cons (pe_op op_cat (pv 4) (pe_lst (pa_cons pe_str pa_nil))) pa_nil))) pa_nil))))) pss_nil)
      (pss_cons (ps_if (pt_cmpR op_eq (pv 6) pe_int (nomark _)) (pss_one (ps_ret (pe_tup (pa_cons pe_str (pa_cons (pe_callF G__law_pick (hr.mono (by decide)) (pa_cons (pv 0) (pa_cons (pe_callB (csortD rfl) (by rfl) T.n_sorted (by decide +kernel) (pa_cons (pv 1) pa_nil)) pa_nil))) pa_nil))))) pss_nil)
      (pss_cons (ps_if (PW.pt (pw_or (pt_cmpR op_eq (pv 6) pe_int (nomark _)) (pw_or1 (pt_not (pt_val (pv 3)))))) (pss_one (ps_ret (pe_tup (pa_cons pe_str (pa_cons (pe_callF G__law_pick (hr.mono (by decide)) (pa_cons (pv 0) (pa_cons (pe_op op_cat (pv 4) (pe_lst (pa_cons pe_str pa_nil))) pa_nil))) (pa_cons (pe_callF G__law_some_wishes (hr.mono (by decide)) (pa_cons (pv 0) (pa_cons (pv 1) pa_nil))) pa_nil)))))) pss_nil)
      (pss_one (ps_ret (pe_callF G__law_pick (hr.mono (by decide)) (pa_cons (pv 0) (pa_cons (pe_lst (pa_cons (pe_tup (pa_cons pe_str pa_nil)) (pa_cons (pe_tup (pa_cons pe_str pa_nil)) (pa_cons (pe_tup (pa_cons pe_str pa_nil)) pa_nil)))) pa_nil)))))))))))), fun a p m xs ys dr db Qd hJ h => ?_⟩
  obtain ⟨ps, b, e, hR, q⟩ := h
  cases e
  obtain ⟨ks, hks, hk0, hk4, hkn, hkm, hkv⟩ := id hR
  obtain ⟨hx, hy, hlen⟩ := id hJ
  refine ws_seq <| ws_unpack2 rfl ?_
  refine ws_seq <| ws_asg <| ew_callW rfl <| ea_cons <| ew_int <| ea_nil ⟨rfl, 12, rfl, by decide, by decide, fun r h0 h1 => gw_name ?_⟩
  have sort : ∀ {Q : D → DL.Env → Prop} {ρ : DL.Env}, (∀ ys : List Str, 0 < ys.length → ys.length ≤ 4 → (∀ d ∈ strsD ys, Ok d) → Q (.lst (strsD ys)) ρ) → OpN K rSortD [.dk ps] ρ Q := fun h => opn_sortD hks (by omega) fun ys hp hs => h ys (by rw [hp.length_eq]; exact hk0) (by rw [hp.length_eq]; exact hk4) (ok_strs (fun x z => hkm x (hp.mem_iff.mp z)) menu_ok)
  have c1 : ∀ {n : Nat}, n ≤ 5 → n ≤ 100000 := fun h => by omega
  have okk : ∀ d ∈ strsD xs ++ [D.str "zz"], Ok d := fun d hd => by
    rcases List.mem_append.mp hd with z | z
    · exact ok_strs hx names_ok d z
    · rw [List.mem_singleton.mp z]; exact okS (by decide +kernel)
  have lxs : (strsD xs).length ≤ 8 := by rw [strsD_len]; omega
  refine ws_seq <| ws_ifn (C := True) (et_and <| et_test <| ew_op <| ew_var rfl <| ew_int <| op2_cmp ⟨_, rfl, ite_b (fun _ => et_peek <| et_test <| ew_op <| ew_var rfl <| ew_new <| en_lst <| ea_nil ⟨c1 (by show 0 ≤ 5; decide), op2_ne_nil (fun x z => (names_ok x (hy x z)).1) ⟨_, rfl, rfl, ite_b (fun hb => ?_) (fun _ => ⟨rfl, trivial⟩)⟩⟩) (fun _ => iteF ⟨rfl, trivial⟩)⟩) fun _ => ?_
  · obtain ⟨y, yt, rfl⟩ : ∃ y yt, ys = y :: yt := by
      cases ys with
      | nil => simp at hb
      | cons y yt => exact ⟨y, yt, rfl⟩
    refine ws_seq <| ws_drop <| ew_append rfl <| ew_popAt rfl <| ew_int ⟨_, 0, .str y, rfl, rfl, by decide, by decide, rfl, _, rfl, by omega, ?_⟩
    have hyy : Ok (.str y) := .str (names_ok y (hy y List.mem_cons_self)).2
    refine ws_ret <| ew_callW rfl <| ea_cons <| ew_var rfl <| ea_cons <| ew_peek <| ew_op <| ew_var rfl <| ew_un <| ew_int <| op1_neg <| op2_ix rfl (d := .str y) ?_ ⟨rfl, rfl, ea_nil ⟨rfl, ps, _, rfl, hR, hyy, fun d hd => ⟨rfl, ⟨xs ++ [y], yt, ⟨?_, fun z hz => hy z (List.mem_cons_of_mem _ hz), ?_⟩, ?_, rfl⟩, q d hd⟩⟩⟩
    · have e1 : ixN (strsD xs ++ [D.str y]).length (-1) = some (strsD xs).length := by
        unfold ixN
        rw [if_neg (by decide), if_pos (by simp; omega), List.length_append]
        congr 1
        simp only [List.length_cons, List.length_nil]
        omega
      unfold atI
      rw [e1]
      simp
    · intro z hz
      rcases List.mem_append.mp hz with z1 | z1
      · exact hx z z1
      · rw [List.mem_singleton.mp z1]; exact hy y List.mem_cons_self
    · simp at hlen ⊢; omega
    · show some (Sl.own p (.lst (strsD xs ++ [.str y]))) = some (Sl.own p (.lst (strsD (xs ++ [y]))))
      unfold strsD; rw [List.map_append]; rfl
  refine ws_seq <| ws_ifn (C := True) (et_test <| ew_op <| ew_var rfl <| ew_int <| op2_cmp ⟨_, rfl, ite_b (fun _ => ?_) (fun _ => ⟨rfl, trivial⟩)⟩) fun _ => ?_
  · exact ws_ret <| ew_tup <| ea_cons <| ew_str <| ea_cons <| ew_callW rfl <| ea_cons <| ew_new <| en_cb <| ea_cons <| ew_var rfl <| ea_nil <| sort fun ys l0 l4 hys => ea_nil ⟨rfl, _, _, rfl, rfl, by rw [strsD_len]; exact l0, by rw [strsD_len]; omega, fun d hd => ea_nil ⟨c1 (by show 2 ≤ 5; decide), rfl, ⟨xs, _, hJ, rfl, rfl⟩, q _ (ev2 (okS (by decide +kernel)) (hys d hd))⟩⟩
  refine ws_seq <| ws_ifn (C := True) (et_test <| ew_op <| ew_var rfl <| ew_int <| op2_eq_int ⟨_, rfl, ite_b (fun _ => ?_) (fun _ => ⟨rfl, trivial⟩)⟩) fun _ => ?_
  · exact ws_ret <| ew_tup <| ea_cons <| ew_str <| ea_cons <| ew_callW rfl <| ea_cons <| ew_new <| en_catO rfl <| ew_new <| en_lst <| ea_cons <| ew_str <| ea_nil ⟨c1 (by show 1 ≤ 5; decide), _, rfl, rfl, by show _ + 1 ≤ _; omega, ea_nil ⟨rfl, _, _, rfl, rfl, by simp, by simp; omega, fun d hd => ea_nil ⟨c1 (by show 2 ≤ 5; decide), rfl, ⟨xs, _, hJ, rfl, rfl⟩, q _ (ev2 (okS (by decide +kernel)) (okk d hd))⟩⟩⟩
  refine ws_seq <| ws_ifn (C := True) (et_test <| ew_op <| ew_var rfl <| ew_int <| op2_eq_int ⟨_, rfl, ite_b (fun _ => ?_) (fun _ => ⟨rfl, trivial⟩)⟩) fun _ => ?_
  · exact ws_ret <| ew_tup <| ea_cons <| ew_str <| ea_cons <| ew_callW rfl <| ea_cons <| ew_new <| en_cb <| ea_cons <| ew_var rfl <| ea_nil <| sort fun ys l0 l4 hys => ea_nil ⟨rfl, _, _, rfl, rfl, by rw [strsD_len]; exact l0, by rw [strsD_len]; omega, fun d hd => ea_nil ⟨c1 (by show 2 ≤ 5; decide), rfl, ⟨xs, _, hJ, rfl, rfl⟩, q _ (ev2 (okS (by decide +kernel)) (hys d hd))⟩⟩
  have chg : ∀ {ρ : DL.Env}, True := trivial
  refine ws_seq <| ws_if <| et_weak (Q₁ := fun _ ρ' => ρ' = _) (et_or <| et_test <| ew_op <| ew_var rfl <| ew_int <| op2_eq_int ⟨_, rfl, ite_b (fun _ => rfl) (fun _ => et_not <| et_B <| ew_var rfl ⟨_, rfl, rfl⟩)⟩) ?_
  rintro bb _ rfl
  cases bb with
  | true =>
    refine iteT ?_
    refine ws_ret <| ew_tup <| ea_cons <| ew_str <| ea_cons <| ew_callW rfl <| ea_cons <| ew_new <| en_catO rfl <| ew_new <| en_lst <| ea_cons <| ew_str <| ea_nil ⟨c1 (by show 1 ≤ 5; decide), _, rfl, rfl, by show _ + 1 ≤ _; omega, ea_nil ⟨rfl, _, _, rfl, rfl, by simp, by simp; omega, fun d hd => ?_⟩⟩
    exact ea_cons <| ew_callW rfl <| ea_cons <| ew_var rfl <| ea_nil ⟨rfl, ps, rfl, hR, fun wd hwd => ea_nil ⟨c1 (by show 3 ≤ 5; decide), rfl, ⟨xs, _, hJ, rfl, rfl⟩, q _ (ev3 (okS (by decide +kernel)) (okk d hd) hwd)⟩⟩
  | false =>
    refine iteF <| ws_next ?_
    refine ws_ret <| ew_callW rfl <| ea_cons <| ew_new <| en_lst <| ea_cons <| ew_tup <| ea_cons <| ew_str <| ea_nil ⟨c1 (by show 1 ≤ 5; decide), ea_cons <| ew_tup <| ea_cons <| ew_str <| ea_nil ⟨c1 (by show 1 ≤ 5; decide), ea_cons <| ew_tup <| ea_cons <| ew_str <| ea_nil ⟨c1 (by show 1 ≤ 5; decide), ea_nil ⟨c1 (by show 3 ≤ 5; decide), ea_nil ⟨rfl, _, _, rfl, rfl, by show 0 < 3; decide, by show 3 ≤ 100000; decide, fun d hd => ⟨rfl, ⟨xs, _, hJ, rfl, rfl⟩, q d ?_⟩⟩⟩⟩⟩⟩
    simp only [List.mem_cons, List.not_mem_nil, or_false] at hd
    rcases hd with rfl | rfl | rfl
    · exact ev1 (okS (by decide +kernel))
    · exact ev1 (okS (by decide +kernel))
    · exact ev1 (okS (by decide +kernel))
end
end K01

set_option Elab.async false
set_option linter.all false
set_option maxRecDepth 100000
namespace K01
open PySem PySem.Spec PyProof.Rows L2 DL
theorem dput_len (ps : List (Key × D)) (k : Key) (d : D) : (dput ps k d).length ≤ ps.length + 1 := by
  unfold dput
  split
  · rw [List.length_map]; omega
  · simp
theorem dput_vals {ps : List (Key × D)} {k : Key} {d e : D} (h : e ∈ (dput ps k d).map (·.2)) : e = d ∨ e ∈ ps.map (·.2) := by
  unfold dput at h
  split at h
  · obtain ⟨kv, h1, rfl⟩ := List.mem_map.mp h
    obtain ⟨p, hp, rfl⟩ := List.mem_map.mp h1
    split
    · exact .inl rfl
    · exact .inr (List.mem_map_of_mem hp)
  · rw [List.map_append] at h
    rcases List.mem_append.mp h with z | z
    · exact .inr z
    · exact .inl (List.mem_singleton.mp z)
theorem cut_sub (xs : List D) (lo hi : Option Int) : (cutDD xs lo hi).Sublist xs := (List.take_sublist _ _).trans (List.drop_sublist _ _)
section
variable {P : Program} {w : World} {K : PySem.W.Frag} {mg : Str → Option Value} {base : Heap}
abbrev N__law_some_events : List Str := ["_law_draws", "_law_ranks", "_law_many", "_law_rounds", "_law_names", "_law_time", "_law_found", "_law_k"]
theorem S__law_some_events : FnScope N__law_some_events ["_law_draws", "_law_ranks", "_law_many", "_law_rounds"] (defScope s__law_some_events) := ⟨rfl, rfl, rfl, by decide +kernel, rfl, by decide +kernel, by decide +kernel⟩
def TEvs : List D → (D → Prop) → Prop := fun ds Q => ∃ ps b, ds = [.dk ps, .int 4, .bl b] ∧ Ranks ps ∧ ∀ es : List (Key × D), es.length ≤ 8 → (∀ d ∈ es.map (·.2), Event d) → Q (.dk es)
def InvE (a k m p : Addr) (ps : List (Key × D)) (b : Bool) (i : Nat) (ρ : DL.Env) : Prop := ∃ (xs ys : List Str) (tm : Int) (es : List (Key × D)) (s : Sl), ρ = [.drw a, .sh (.dk ps), .sh (.int 4), .sh (.bl b), .two k m xs ys, .sh (.int tm), .own p (.dk es), s] ∧ s.adr = [] ∧
  JN xs ys ∧ es.length ≤ 2 * i ∧ ∀ d ∈ es.map (·.2), Event d
theorem ok_law_some_events (T : TX K mg) : FnB P w K mg base 5 "_law_some_events" ["_law_draws", "_law_ranks", "_law_many", "_law_rounds"] (spW K TEvs) := by
  obtain ⟨fd, F⟩ := T.F__law_some_events
  have G__law_draw := ok_law_draw (P := P) (w := w) (base := base) T
  have G__law_pick := ok_law_pick (P := P) (w := w) (base := base) T
  have G__law_some_event := ok_law_some_event (P := P) (w := w) (base := base) T
  refine fn_W (k := 4) F T.g__law_some_events (fun _ _ _ _ _ _ us hl => match us, hl with | [_, _, _, _], _ => rfl) S__law_some_events (by decide) (fun ds Qd h => by obtain ⟨ps, b, rfl, _⟩ := h; rfl) fun cdv A outer s H E hr => ⟨_, (pss_cons (ps_par3 (i := 4) (j := 5) (l := 6) (by rfl) S__law_some_events.nd rfl rfl rfl (by decide) (by decide) (by decide) (by rfl) (by rfl) (by rfl) (pa_cons (pe_tup (pa_cons (pe_lst pa_nil) (pa_cons (pe_lst (pa_cons pe_str (pa_cons pe_str (pa_cons pe_str (pa_cons pe_str (pa_cons pe_str (pa_cons pe_str (pa_cons pe_str (pa_cons pe_str pa_nil))))))))) pa_nil))) (pa_cons pe_int (pa_cons pe_dnewK pa_nil))) (by rfl))
      (pss_cons (ps_for PassesOwn.never rfl (pi_range1 (by rfl) T.n_range (pa_cons (pv 2) pa_nil)) (pg_name (i := 7) S__law_some_events.nd rfl (by first | exact .inl rfl | exact .inr rfl))
      (pss_cons (ps_set (i := 5) S__law_some_events.nd rfl (by first | exact .inl rfl | exact .inr rfl) (pe_op op_add (pv 5) (pe_callF G__law_pick (hr.mono (by decide)) (pa_cons (pv 0) (pa_cons (pe_lst (pa_cons pe_int (pa_cons pe_int (pa_cons pe_int (pa_cons pe_int pa_nil))))) pa_nil)))))
      (pss_cons (ps_dput (hu_of hr) (pv 6) (pe_op op_sub (pv 5) pe_int) (pe_callF G__law_some_event (hr.mono (by decide)) (pa_cons (pv 0) (pa_cons (pv 1) (pa_cons (pv 4) (pa_cons (pv 3) pa_nil))))) rfl)
      (pss_one (ps_if (PW.pt (pw_and (pt_val (pv 3)) (pw_and1 (pt_cmpR op_eq (pe_callF G__law_draw (hr.mono (by decide)) (pa_cons (pv 0) (pa_cons pe_int pa_nil))) pe_int (nomark _))))) (pss_cons (ps_set (i := 5) S__law_some_events.nd rfl (by first | exact .inl rfl | exact .inr rfl) (pe_op op_add (pv 5) pe_int))
      (pss_one (ps_dput (hu_of hr) (pv 6) (pe_op op_sub (pv 5) pe_int) (pe_tup (pa_cons pe_str pa_nil)) rfl))) pss_nil)))))
      (pss_one (ps_ret (pv 6))))), fun a ds Qd h => ?_⟩
  obtain ⟨ps, b, rfl, hR, q⟩ := h
  refine ws_seq <| ws_par3E (by decide) (by decide) (by decide) <| en_lst <| ea_cons <| ew_str <| ea_cons <| ew_str <| ea_cons <| ew_str <| ea_cons <| ew_str <| ea_cons <| ew_str <| ea_cons <| ew_str <| ea_cons <| ew_str <| ea_cons <| ew_str <| ea_nil ⟨by show 8 ≤ 100000; decide, namesS, rfl, fun k m p => ?_⟩
  refine ws_seq <| ws_for <| ei_range1 <| ea_cons <| ew_var rfl <| ea_nil ⟨4, rfl, by decide, by decide, fun i ρ => i ≤ 4 ∧ InvE a k m p ps b i ρ, ⟨by decide, [], namesS, 0, [], .un, rfl, rfl, ⟨fun x z => (nomatch z), fun x z => z, rfl⟩, Nat.le_refl _, fun d z => (nomatch z)⟩, ?_, ?_⟩
  · rintro i d ρ' hd ⟨hi4, xs, ys, tm, es, s0, rfl, hs0, hJ, hle, hev⟩
    have hi : i < 4 := by
      have := (List.getElem?_eq_some_iff.mp hd).1
      simpa using this
    refine gw_name <| ws_seq <| ws_asg <| ew_op <| ew_var rfl <| ew_callW rfl <| ea_cons <| ew_new <| en_lst <| ea_cons <| ew_int <| ea_cons <| ew_int <| ea_cons <| ew_int <| ea_cons <| ew_int <| ea_nil ⟨by show 4 ≤ 100000; decide, ea_nil ⟨rfl, _, _, rfl, rfl, by show 0 < 4; decide, by show 4 ≤ 100000; decide, fun pt hpt => ?_⟩⟩
    obtain ⟨n, rfl⟩ : ∃ n : Int, pt = .int n := by
      simp only [List.mem_cons, List.not_mem_nil, or_false] at hpt
      rcases hpt with rfl | rfl | rfl | rfl <;> exact ⟨_, rfl⟩
    refine op2_int <| gw_name <| ws_seq <| ws_dput (i := 6) (a := p) <| ew_callE rfl rfl rfl rfl hJ ⟨ps, b, rfl, hR, fun ev hE xs' ys' hJ' => ⟨⟨_, rfl⟩, ew_op <| ew_var rfl <| ew_int <| op2_int ⟨.inl _, es, rfl, rfl, by omega, ?_⟩⟩⟩
    have len1 := dput_len es (.inl (tm + n - 1)) ev
    have ev1' : ∀ d ∈ (dput es (.inl (tm + n - 1)) ev).map (·.2), Event d := fun d hd => by
      rcases dput_vals hd with rfl | z
      · exact hE
      · exact hev d z
    refine ws_ifn (C := True) (et_and <| et_B <| ew_var rfl ⟨b, rfl, ite_b (fun _ => et_test <| ew_op <| ew_callW rfl <| ea_cons <| ew_int <| ea_nil ⟨rfl, 6, rfl, by decide, by decide, fun r h0 h1 => ew_int <| op2_eq_int ⟨_, rfl, ite_b (fun _ => ?_) (fun _ => ⟨rfl, trivial⟩)⟩⟩) (fun _ => iteF ⟨rfl, trivial⟩)⟩) fun _ => ?_
    · refine ws_seq <| ws_asg <| ew_op <| ew_var rfl <| ew_int <| op2_int <| gw_name <| ws_dput (i := 6) (a := p) <| ew_tup <| ea_cons <| ew_str <| ea_nil ⟨by show 1 ≤ 100000; decide, ⟨_, rfl⟩, ew_op <| ew_var rfl <| ew_int <| op2_int ⟨.inl _, _, rfl, rfl, by omega, ?_⟩⟩
      have len2 := dput_len (dput es (.inl (tm + n - 1)) ev) (.inl (tm + n + 1 - 1)) (.tup [.str "round"])
      refine ⟨by omega, xs', ys', _, _, .sh d, rfl, rfl, hJ', by omega, fun d hd => ?_⟩
      rcases dput_vals hd with rfl | z
      · exact ev1 (okS (by decide +kernel))
      · exact ev1' d z
    · exact ⟨by omega, xs', ys', _, _, .sh d, rfl, rfl, hJ', by omega, ev1'⟩
  · rintro ρ' ⟨hi4, xs, ys, tm, es, s0, rfl, hs0, hJ, hle, hev⟩
    exact ws_retO rfl ⟨rfl, q es (by simpa using hle) hev⟩
abbrev N__law_bent : List Str := ["_law_draws", "_law_ranks", "_law_event", "_law_at", "_law_kind", "_law_more", "_law_row"]
theorem S__law_bent : FnScope N__law_bent ["_law_draws", "_law_ranks", "_law_event"] (defScope s__law_bent) := ⟨rfl, rfl, rfl, by decide +kernel, rfl, by decide +kernel, by decide +kernel⟩
def TBent : List D → (D → Prop) → Prop := fun ds Q => ∃ ps e, ds = [.dk ps, e] ∧ Ranks ps ∧ Event e ∧ ∀ d, Ok d → Q d
theorem okInt {i : Int} : Ok (.int i) := .int i
theorem mem2 {P : D → Prop} {x y : D} (hx : P x) (hy : P y) : ∀ d ∈ [x, y], P d := fun d hd => by
  simp only [List.mem_cons, List.not_mem_nil, or_false] at hd
  rcases hd with rfl | rfl
  · exact hx
  · exact hy
theorem mem1 {P : D → Prop} {x : D} (hx : P x) : ∀ d ∈ [x], P d := fun d hd => by
  rw [List.mem_singleton.mp hd]; exact hx
theorem memc {P : D → Prop} {x : D} {xs : List D} (hx : P x) (hs : ∀ d ∈ xs, P d) : ∀ d ∈ x :: xs, P d := fun d hd => by
  rcases List.mem_cons.mp hd with rfl | z
  · exact hx
  · exact hs d z
theorem memn {P : D → Prop} : ∀ d ∈ ([] : List D), P d := fun d hd => (nomatch hd)
theorem mema {P : D → Prop} {xs ys : List D} (hx : ∀ d ∈ xs, P d) (hy : ∀ d ∈ ys, P d) : ∀ d ∈ xs ++ ys, P d := fun d hd => (List.mem_append.mp hd).elim (hx d) (hy d)
theorem ok_law_bent (T : TX K mg) : FnB P w K mg base 3 "_law_bent" ["_law_draws", "_law_ranks", "_law_event"] (spW K TBent) := by
  obtain ⟨fd, F⟩ := T.F__law_bent
  have G__law_draw := ok_law_draw (P := P) (w := w) (base := base) T
  have G__law_pick := ok_law_pick (P := P) (w := w) (base := base) T
  refine fn_W (k := 2) F T.g__law_bent (fun _ _ _ _ _ _ us hl => match us, hl with | [_, _, _], _ => rfl) S__law_bent (by decide) (fun ds Qd h => by obtain ⟨ps, e, rfl, _⟩ := h; rfl) fun cdv A outer s H E hr => ⟨_, (pss_cons (ps_par (i := 3) (j := 4) (by rfl) S__law_bent.nd rfl rfl (by decide) (by rfl) (by rfl) (pa_cons (pe_callF G__law_draw (hr.mono (by decide)) (pa_cons (pv 0) (pa_cons (pe_callB (klen (K := K) rfl) (by rfl) T.n_len (by decide +kernel) (pa_cons (pv 2) pa_nil)) pa_nil))) (pa_cons (pe_callF G__law_pick (hr.mono (by decide)) (pa_cons (pv 0) (pa_cons (pe_callB (csortD rfl) (by rfl) T.n_sorted (by decide +kernel) (pa_cons (pv 1) pa_nil)) pa_nil))) pa_nil)) (by rfl))
      (pss_cons (ps_set (i := 5) S__law_bent.nd rfl (by first | exact .inl rfl | exact .inr rfl) (pe_lst (pa_cons pe_non (pa_cons pe_bl (pa_cons (pe_un un_neg pe_int) (pa_cons (pe_op op_pow pe_int pe_int) (pa_cons (pe_op op_add (pe_op op_pow pe_int pe_int) pe_int) (pa_cons pe_str (pa_cons pe_str (pa_cons pe_str (pa_cons (pv 4) (pa_cons (pe_lst (pa_cons (pv 4) pa_nil)) (pa_cons (pe_lst (pa_cons (pv 4) (pa_cons (pv 4) pa_nil))) (pa_cons pe_str (pa_cons pe_str (pa_cons pe_dnewK (pa_cons pe_int pa_nil)))))))))))))))))
      (pss_cons (ps_set (i := 5) S__law_bent.nd rfl (by first | exact .inl rfl | exact .inr rfl) (pe_op op_cat (pv 5) (pe_lst (pa_cons (pe_lst (pa_cons pe_str pa_nil)) (pa_cons (pe_lst (pa_cons (pv 4) (pa_cons pe_str pa_nil))) (pa_cons (pe_tup (pa_cons (pv 4) (pa_cons pe_str pa_nil))) (pa_cons (pe_tup (pa_cons pe_str pa_nil)) pa_nil)))))))
      (pss_cons (ps_set (i := 6) S__law_bent.nd rfl (by first | exact .inl rfl | exact .inr rfl) (pe_op op_cat (pe_op op_cat (pe_callTy (klist (K := K) rfl) (by rfl) T.n_list (by decide +kernel) (pa_cons (pe_slice (ksl (K := K) rfl) (pv 2) po_none (po_some (pv 3))) pa_nil)) (pe_lst (pa_cons (pe_callF G__law_pick (hr.mono (by decide)) (pa_cons (pv 0) (pa_cons (pv 5) pa_nil))) pa_nil))) (pe_callTy (klist (K := K) rfl) (by rfl) T.n_list (by decide +kernel) (pa_cons (pe_slice (ksl (K := K) rfl) (pv 2) (po_some (pe_op op_add (pv 3) pe_int)) po_none) pa_nil))))
      (pss_one (ps_ret (pe_callF G__law_pick (hr.mono (by decide)) (pa_cons (pv 0) (pa_cons (pe_lst (pa_cons (pv 6) (pa_cons (pe_callTy (ktuple (K := K) rfl) (by rfl) T.n_tuple (by decide +kernel) (pa_cons (pv 6) pa_nil)) (pa_cons (pe_slice (ksl (K := K) rfl) (pv 2) po_none (po_some (pe_un un_neg pe_int))) (pa_cons (pe_op (kcatA (K := K) rfl) (pv 2) (pe_tup (pa_cons pe_non pa_nil))) (pa_cons (pe_op (kcatA (K := K) rfl) (pv 2) (pe_tup (pa_cons (pv 4) pa_nil))) (pa_cons (pe_callTy (klist (K := K) rfl) (by rfl) T.n_list (by decide +kernel) (pa_cons (pv 2) pa_nil)) (pa_cons (pv 2) pa_nil)))))))) pa_nil))))))))), fun a ds Qd h => ?_⟩
  obtain ⟨ps, e, rfl, hR, ⟨xs, rfl, hx1, hx5, hxo⟩, q⟩ := h
  obtain ⟨ks, hks, hk0, hk4, hkn, hkm, hkv⟩ := id hR
  have sort : ∀ {Q : D → DL.Env → Prop} {ρ : DL.Env}, (∀ ys : List Str, 0 < ys.length → ys.length ≤ 4 → (∀ y ∈ ys, y ∈ menuS) → Q (.lst (strsD ys)) ρ) → OpN K rSortD [.dk ps] ρ Q := fun h => opn_sortD hks (by omega) fun ys hp hs => h ys (by rw [hp.length_eq]; exact hk0) (by rw [hp.length_eq]; exact hk4) (fun x z => hkm x (hp.mem_iff.mp z))
  have c1 : ∀ {n : Nat}, n ≤ 30 → n ≤ 100000 := fun h => by omega
  refine ws_seq <| ws_par <| ea_cons <| ew_callW rfl <| ea_cons <| ew_cb <| ea_cons <| ew_var rfl <| ea_nil <| opa_len rfl <| ea_nil ⟨rfl, _, rfl, by omega, by omega, fun r h0 h1 => ?_⟩
  refine ea_cons <| ew_callW rfl <| ea_cons <| ew_new <| en_cb <| ea_cons <| ew_var rfl <| ea_nil <| sort fun ys l0 l4 hys => ea_nil ⟨rfl, _, _, rfl, rfl, by rw [strsD_len]; exact l0, by rw [strsD_len]; omega, fun kd hkd => ea_nil ⟨_, _, rfl, ?_⟩⟩
  obtain ⟨kk, hkk, rfl⟩ := List.mem_map.mp hkd
  have hk : Ok (.str kk) := .str (menu_ok kk (hys kk hkk)).2
  have p6 : ∀ {Q : D → DL.Env → Prop} {ρ : DL.Env}, Q (.int 1000000) ρ → True := fun _ => trivial
  refine ws_seq <| ws_asg <| ew_new <| en_lst <| ea_cons <| ew_non <| ea_cons <| ew_bl <| ea_cons <| ew_un <| ew_int <| op1_neg <| ea_cons <| ew_op <| ew_int <| ew_int <| op2_intC ⟨by decide, by decide, by decide⟩ <| ea_cons <| ew_op <| ew_op <| ew_int <| ew_int <| op2_intC ⟨by decide, by decide, by decide⟩ <| ew_int <| op2_int <| ea_cons <| ew_str <| ea_cons <| ew_str <| ea_cons <| ew_str <| ea_cons <| ew_var rfl <|
    ea_cons <| ew_new <| en_lst <| ea_cons <| ew_var rfl <| ea_nil ⟨c1 (by show 1 ≤ 30; decide), ?_⟩
  refine ea_cons <| ew_new <| en_lst <| ea_cons <| ew_var rfl <| ea_cons <| ew_var rfl <| ea_nil ⟨c1 (by show 2 ≤ 30; decide), ?_⟩
  refine ea_cons <| ew_str <| ea_cons <| ew_str <| ea_cons <| ew_new <| en_dnewK <| ea_cons <| ew_int <| ea_nil ⟨c1 (by show 15 ≤ 30; decide), gw_name ?_⟩
  refine ws_seq <| ws_asg <| ew_new <| en_cat <| ew_var rfl <| ew_new <| en_lst <| ea_cons <| ew_new <| en_lst <| ea_cons <| ew_str <| ea_nil ⟨c1 (by show 1 ≤ 30; decide), ?_⟩
  refine ea_cons <| ew_new <| en_lst <| ea_cons <| ew_var rfl <| ea_cons <| ew_str <| ea_nil ⟨c1 (by show 2 ≤ 30; decide), ?_⟩
  refine ea_cons <| ew_tup <| ea_cons <| ew_var rfl <| ea_cons <| ew_str <| ea_nil ⟨c1 (by show 2 ≤ 30; decide), ?_⟩
  refine ea_cons <| ew_tup <| ea_cons <| ew_str <| ea_nil ⟨c1 (by show 1 ≤ 30; decide), ?_⟩
  refine ea_nil ⟨c1 (by show 4 ≤ 30; decide), _, _, rfl, rfl, by show 15 + 4 ≤ 90000; decide, gw_name ?_⟩
  have zz : Ok (.str "zz") := okS (by decide +kernel)
  have l1 : ∀ {x : D}, Ok x → Ok (.lst [x]) := fun h => .lst (by show 1 ≤ 1000; decide) (mem1 h)
  have l2 : ∀ {x y : D}, Ok x → Ok y → Ok (.lst [x, y]) := fun h h' => .lst (by show 2 ≤ 1000; decide) (mem2 h h')
  have t1 : ∀ {x : D}, Ok x → Ok (.tup [x]) := fun h => .tup (by show 1 ≤ 1000; decide) (mem1 h)
  have t2 : ∀ {x y : D}, Ok x → Ok y → Ok (.tup [x, y]) := fun h h' => .tup (by show 2 ≤ 1000; decide) (mem2 h h')
  refine ws_seq <| ws_asg <| ew_new <| en_cat <| ew_new <| en_cat <| ew_new <| en_cb <| ea_cons <| ew_slT <| ew_var rfl <| eo_none <| eo_some <| ew_var rfl ⟨_, rfl, _, rfl, ea_nil <| opn_list rfl ?_⟩
  refine ew_new <| en_lst <| ea_cons <| ew_callW rfl <| ea_cons <| ew_var rfl <| ea_nil ⟨rfl, _, _, rfl, rfl, by show 0 < 19; decide, by show 19 ≤ 100000; decide, fun x hx => ?_⟩
  have hxk : Ok x := by
    refine mema (memc .non <| memc (.bl _) <| memc okInt <| memc okInt <| memc okInt <| memc (okS (by decide +kernel)) <| memc (okS (by decide +kernel)) <| memc (okS (by decide +kernel)) <| memc hk <| memc (l1 hk) <| memc (l2 hk hk) <| memc (okS (by decide +kernel)) <| memc (okS (by decide +kernel)) <| memc (.dk (by show 0 ≤ 1000; decide)) <| memc okInt memn)
      (memc (l1 zz) <| memc (l2 hk zz) <| memc (t2 hk zz) <| memc (t1 zz) memn) x hx
  have cl : ∀ lo hi, (cutDD xs lo hi).length ≤ 5 := fun lo hi => Nat.le_trans (cut_sub xs lo hi).length_le hx5
  have co : ∀ lo hi, ∀ d ∈ cutDD xs lo hi, Ok d := fun lo hi d hd => hxo d ((cut_sub xs lo hi).subset hd)
  refine ea_nil ⟨c1 (by show 1 ≤ 30; decide), _, _, rfl, rfl, ?_, ?_⟩
  · have := cl none (some r); show _ + 1 ≤ _; omega
  refine ew_new <| en_cb <| ea_cons <| ew_slT <| ew_var rfl <| eo_some <| ew_op <| ew_var rfl <| ew_int <| op2_int ⟨_, rfl, eo_none ⟨_, rfl, ea_nil <| opn_list rfl ⟨_, _, rfl, rfl, ?_, gw_name ?_⟩⟩⟩
  · have := cl none (some r); have := cl (some (r + 1)) none
    rw [List.length_append]; show _ + 1 + _ ≤ _; omega
  have hrow : ((cutDD xs none (some r) ++ [x]) ++ cutDD xs (some (r + 1)) none).length ≤ 11 := by
    have := cl none (some r); have := cl (some (r + 1)) none
    rw [List.length_append, List.length_append]; show _ + 1 + _ ≤ _; omega
  have hrowo : ∀ d ∈ ((cutDD xs none (some r) ++ [x]) ++ cutDD xs (some (r + 1)) none), Ok d := mema (mema (co _ _) (mem1 hxk)) (co _ _)
  refine ws_ret <| ew_callW rfl <| ea_cons <| ew_new <| en_lst <| ea_cons <| ew_var rfl <| ea_cons <| ew_cb <| ea_cons <| ew_var rfl <| ea_nil <| opa_tuple rfl ?_
  refine ea_cons <| ew_slT <| ew_var rfl <| eo_none <| eo_some <| ew_un <| ew_int <| op1_neg ⟨_, rfl, _, rfl, ?_⟩
  refine ea_cons <| ew_op <| ew_var rfl <| ew_tup <| ea_cons <| ew_non <| ea_nil ⟨c1 (by show 1 ≤ 30; decide), op2_catT (by show _ + 1 ≤ _; omega) ?_⟩
  refine ea_cons <| ew_op <| ew_var rfl <| ew_tup <| ea_cons <| ew_var rfl <| ea_nil ⟨c1 (by show 1 ≤ 30; decide), op2_catT (by show _ + 1 ≤ _; omega) ?_⟩
  refine ea_cons <| ew_new <| en_cb <| ea_cons <| ew_var rfl <| ea_nil <| opn_list rfl ?_
  refine ea_cons <| ew_var rfl <| ea_nil ⟨c1 (by show 7 ≤ 30; decide), ea_nil ⟨rfl, _, _, rfl, rfl, by show 0 < 7; decide, by show 7 ≤ 100000; decide, fun d hd => ⟨rfl, q d ?_⟩⟩⟩
  refine memc (.lst (by omega) hrowo) (memc (.tup (by omega) hrowo) <| memc (.tup ?_ (co _ _)) <| memc (.tup ?_ (mema hxo (mem1 .non))) <| memc (.tup ?_ (mema hxo (mem1 hk))) <| memc (.lst (by omega) hxo) <| memc (.tup (by omega) hxo) memn) d hd
  · have := cl none (some (-1)); omega
  · rw [List.length_append]; show _ + 1 ≤ _; omega
  · rw [List.length_append]; show _ + 1 ≤ _; omega
end
end K01

set_option Elab.async false
set_option linter.all false
set_option maxRecDepth 100000
namespace K01
open PySem PySem.Spec PyProof.Rows L2 DL
def wordsS : List Str := ["points", "few", "home", "early", "late"]
def inW : D → Bool
  | .str x => decide (x ∈ wordsS)
  | _ => false
def RankOk (d : D) : Prop := ∃ xs : List Str, d = .tup (strsD xs) ∧ xs.length ≤ 2 ∧ xs.Nodup ∧ ∀ x ∈ xs, x ∈ wordsS
theorem words_len : ∀ x ∈ wordsS, x.length ≤ 1000 := by decide +kernel
theorem words_rank : ∀ d ∈ wordsD, RankOk d := by
  unfold wordsD
  refine memc ⟨[], rfl, by decide, by decide +kernel, by decide +kernel⟩ <| memc ⟨["points"], rfl, by decide, by decide +kernel, by decide +kernel⟩ <| memc ⟨["home"], rfl, by decide, by decide +kernel, by decide +kernel⟩ <|
    memc ⟨["few", "late"], rfl, by decide, by decide +kernel, by decide +kernel⟩ <| memc ⟨["home", "points"], rfl, by decide, by decide +kernel, by decide +kernel⟩ <| memc ⟨["late"], rfl, by decide, by decide +kernel, by decide +kernel⟩ <| memc ⟨["early"], rfl, by decide, by decide +kernel, by decide +kernel⟩ memn
theorem menu_names : ∀ x ∈ menuS, isNameS x = true := by decide +kernel
/-! ### dicts with the same keys -/
theorem dget_some (ps : List (Key × D)) (k : Key) : (dget ps k).isSome = true ↔ k ∈ ps.map (·.1) := by
  unfold dget
  rw [Option.isSome_map]
  induction ps with
  | nil => exact ⟨fun h => (nomatch h), fun h => (nomatch h)⟩
  | cons p ps ih =>
    rw [List.find?_cons]
    by_cases h : p.1 = k
    · rw [decide_eq_true h]
      exact ⟨fun _ => List.mem_cons.mpr (.inl h.symm), fun _ => rfl⟩
    · rw [decide_eq_false h, List.map_cons, List.mem_cons]
      exact ⟨fun z => .inr (ih.mp z), fun z => z.elim (fun z => absurd z.symm h) ih.mpr⟩
def SameKeys (qs ps : List (Key × D)) : Prop := ∀ x : Str, (dget qs (.inr x)).isSome = (dget ps (.inr x)).isSome
theorem same_of {qs ps : List (Key × D)} (h : ∀ x : Str, (Sum.inr x : Key) ∈ qs.map (·.1) ↔ (Sum.inr x : Key) ∈ ps.map (·.1)) : SameKeys qs ps := fun x => by
  exact Bool.eq_iff_iff.mpr ((dget_some qs _).trans ((h x).trans (dget_some ps _).symm))
theorem key_same {qs ps : List (Key × D)} (h : SameKeys qs ps) : isKeyD qs = isKeyD ps := by
  funext d
  unfold isKeyD
  cases d with
  | str x => exact h x
  | _ => rfl
theorem event_same {qs ps : List (Key × D)} (h : SameKeys qs ps) (d : D) : isEventD qs d = isEventD ps d := by
  have e := key_same h
  have e2 : areWishesD qs = areWishesD ps := by
    funext x
    unfold areWishesD
    rw [e]
  have e3 : comingD qs = comingD ps := by
    funext n ws p x
    unfold comingD
    rw [e, e2]
  have e4 : evRest qs = evRest ps := by
    funext x rest
    unfold evRest
    rw [e, e2, e3]
  unfold isEventD
  rw [e4]
theorem dget_at {ps : List (Key × D)} : ∀ {i : Nat} {k : Key} {v : D}, (ps.map (·.1)).Nodup → ps[i]? = some (k, v) → dget ps k = some v := by
  induction ps with
  | nil => intro i k v _ h; simp at h
  | cons p ps ih =>
    intro i k v nd h
    unfold dget
    rw [List.find?_cons]
    rw [List.map_cons, List.nodup_cons] at nd
    cases i with
    | zero =>
      simp at h
      subst h
      rw [decide_eq_true rfl]; rfl
    | succ i =>
      have h' : ps[i]? = some (k, v) := by simpa using h
      have ne : p.1 ≠ k := fun z => nd.1 (z ▸ List.mem_map.mpr ⟨_, List.mem_of_getElem? h', rfl⟩)
      rw [decide_eq_false ne]
      exact ih nd.2 h'
theorem nodup_inr {ks : List Str} (h : ks.Nodup) : (ks.map (Sum.inr : Str → Key)).Nodup := by
  rw [List.nodup_iff_pairwise_ne] at h ⊢
  rw [List.pairwise_map]
  exact h.imp fun h z => h (Sum.inr.inj z)
section
variable {P : Program} {w : World} {K : PySem.W.Frag} {mg : Str → Option Value} {base : Heap}
abbrev N_is_rank : List Str := ["thing", "word"]
theorem S_is_rank : FnScope N_is_rank ["thing"] (defScope s_is_rank) := ⟨rfl, rfl, rfl, by decide +kernel, rfl, by decide +kernel, by decide +kernel⟩
def TRk : List D → (D → Prop) → Prop := fun ds Q => ∃ d, ds = [d] ∧ RankOk d ∧ Q (.bl true)
theorem ok_is_rank (T : TX K mg) : FnB P w K mg base 2 "is_rank" ["thing"] (spP K TRk) := by
  obtain ⟨fd, F⟩ := T.F_is_rank
  have G_is_list := ok_is_list (P := P) (w := w) (base := base) T
  have G_are_unlike := ok_are_unlike (P := P) (w := w) (base := base) T
  refine fn_P (k := 1) F T.g_is_rank (fun _ _ _ _ _ _ us hl => match us, hl with | [_], _ => rfl) S_is_rank (fun ds Qd h => by obtain ⟨d, rfl, _⟩ := h; rfl) fun cdv A outer s H E hr => ⟨_, (pss_cons (ps_if (PW.pt (pw_or (pt_not (pt_val (pe_callF G_is_list (hr.mono (by decide)) (pa_cons (pv 0) pa_nil)))) (pw_or1 (pt_not (pt_val (pe_callB (kall rfl (K := K) rfl) (by rfl) T.n_all (by decide +kernel) (pa_cons (pe_lc (own := [("word", 1)]) rfl S_is_rank.nd (kwU (K := K) rfl (pv 0)) (blkOk_by (own := [("word", 1)]) (N := N_is_rank) (sc := defScope s_is_rank) (by decide +kernel)) (fun _ _ _ _ _ => (pg_name (i := 1) S_is_rank.nd rfl (by first | exact .inl rfl | exact .inr rfl))) (fun _ _ _ _ _ => pts_nil) (fun _ _ _ _ _ => (pe_and (pe_callB (kisi (K := K) rfl) (by rfl) T.n_isinstance (by decide +kernel) (pa_cons (pv 1) (pa_cons (pe_bltn (v := .ty "str") (by rfl) T.n_str (by decide +kernel) rfl) pa_nil))) (pe_one (pe_cmpR (kin (K := K) rfl) (pv 1) (pe_glob (v := .ref (He.ga K "WORDS")) (by rfl) T.c_WORDS rfl) (by rfl)))))) pa_nil))))))) (pss_one (ps_ret pe_bl)) pss_nil)
      (pss_one (ps_ret (pe_callF G_are_unlike (hr.mono (by decide)) (pa_cons (pv 0) pa_nil))))), fun ds Qd h => ?_⟩
  obtain ⟨d, rfl, ⟨xs, rfl, h2, hn, hw⟩, q⟩ := h
  have okd : Ok (.tup (strsD xs)) := .tup (by rw [strsD_len]; omega) fun d hd => by
    obtain ⟨x, hx, rfl⟩ := List.mem_map.mp hd
    exact .str (words_len x (hw x hx))
  refine ws_seq <| ws_ifn (C := True) (et_or <| et_not <| et_B <| ew_callP <| ea_cons <| ew_var rfl <| ea_nil ⟨_, rfl, okd, _, rfl, iteF <| et_not <| et_B <| ew_cb <| ea_cons <| ew_new <| en_lcB (f := inW) <| ei_seq _ rfl <| ew_var rfl ⟨rfl, rfl, by rw [strsD_len]; omega, fun i y hy => ?_, ea_nil <| opa_all ⟨_, rfl, ?_⟩⟩⟩) fun _ => ?_
  · obtain ⟨x, hx, rfl⟩ := List.mem_map.mp (List.mem_of_getElem? hy)
    exact gv_name (by decide) <| ew_andV <| ew_isi (by decide) <| ew_var rfl ⟨rfl, _, rfl, iteT <| ew_op <| ew_var rfl <| ew_c (d := .tup (strsD wordsS)) (fun G => .tup (T.v_WORDS G) (.cons (.str _) (.cons (.str _) (.cons (.str _) (.cons (.str _) (.cons (.str _) .nil)))))) <| op2_in (neg := false) rfl ⟨rfl, rfl⟩⟩
  · have e : (((strsD xs).map inW).all id) = true := by
      rw [List.all_map, List.all_eq_true]
      intro d hd
      obtain ⟨x, hx, rfl⟩ := List.mem_map.mp hd
      exact decide_eq_true (hw x hx)
    rw [e]
    exact iteF ⟨rfl, trivial⟩
  · exact ws_ret <| ew_callP <| ea_cons <| ew_var rfl <| ea_nil ⟨_, xs, rfl, rfl, by omega, by rw [decide_eq_true hn]; exact q⟩
abbrev N_Office___init__ : List Str := ["self", "ranks", "kind"]
theorem S_Office___init__ : FnScope N_Office___init__ ["self", "ranks"] (defScope s_Office___init__) := ⟨rfl, rfl, rfl, by decide +kernel, rfl, by decide +kernel, by decide +kernel⟩
structure OI (K : PySem.W.Frag) : Prop where
  mkr : Mk K (He.ga K "Office") (He.ma K (He.ga K "Office") "__init__")
  fd : ∃ fd, FunD K "__init__" "Office.__init__" (defArgs s_Office___init__) (defBody s_Office___init__) (defScope s_Office___init__) [] [] (He.ma K (He.ga K "Office") "__init__") fd
def TOff : List D → (D → Prop) → Prop := fun ds Q => ∃ ps, ds = [.dk ps] ∧ Ranks ps ∧ ∀ acc, SameKeys acc ps → Q (off acc)
theorem ok_Office (T : TX K mg) (O : OF K) (I : OI K) : FnI P w K mg base 3 "Office" ["self", "ranks"] (spI K "Office" TOff) := by
  obtain ⟨fd, F⟩ := I.fd
  have G_is_name := ok_is_name (P := P) (w := w) (base := base) T
  have G_is_rank := ok_is_rank (P := P) (w := w) (base := base) T
  refine fn_I (k := 2) F I.mkr T.g_Office (fun _ _ _ _ _ _ us hl => match us, hl with | [_, _], _ => rfl) S_Office___init__ (by decide) (fun ds Qd h => by obtain ⟨ps, rfl, _⟩ := h; rfl) fun cdv A outer s H E hr => ⟨_, (pss_cons (ps_if (pt_not (pt_val (pe_callB (kisi (K := K) rfl) (by rfl) T.n_isinstance (by decide +kernel) (pa_cons (pv 1) (pa_cons (pe_bltn (v := .ty "dict") (by rfl) T.n_dict (by decide +kernel) rfl) pa_nil))))) (pss_one ps_never) pss_nil)
      (pss_cons (ps_or (ps_lock (ps_for PassesOwn.never rfl (pi_keys (pv 1)) (pg_name (i := 2) S_Office___init__.nd rfl (by first | exact .inl rfl | exact .inr rfl))
      (pss_one (ps_if (PW.pt (pw_or (pt_not (pt_val (pe_callF G_is_name (hr.mono (by decide)) (pa_cons (pv 2) pa_nil)))) (pw_or1 (pt_not (pt_val (pe_callF G_is_rank (hr.mono (by decide)) (pa_cons (pe_dget (hu_of hr) (pv 1) (pv 2) (fun _ _ => rfl)) pa_nil))))))) (pss_one ps_never) pss_nil)))) (ps_for PassesOwn.never rfl (pi_keys (pv 1)) (pg_name (i := 2) S_Office___init__.nd rfl (by first | exact .inl rfl | exact .inr rfl))
      (pss_one (ps_if (PW.pt (pw_or (pt_not (pt_val (pe_callF G_is_name (hr.mono (by decide)) (pa_cons (pv 2) pa_nil)))) (pw_or1 (pt_not (pt_val (pe_callF G_is_rank (hr.mono (by decide)) (pa_cons (pe_dget (hu_of hr) (pv 1) (pv 2) (fun _ _ => rfl)) pa_nil))))))) (pss_one ps_never) pss_nil))))
      (pss_one (ps_fld (pv 0) (pe_dc (own := [("kind", 2)]) rfl S_Office___init__.nd (kwU (K := K) rfl (pe_callB (csortD rfl) (by rfl) T.n_sorted (by decide +kernel) (pa_cons (pv 1) pa_nil))) (blkOk_by (own := [("kind", 2)]) (N := N_Office___init__) (sc := defScope s_Office___init__) (by decide +kernel)) (fun _ _ _ _ _ => (pg_name (i := 2) S_Office___init__.nd rfl (by first | exact .inl rfl | exact .inr rfl))) (fun _ _ _ _ _ => pts_nil) (fun _ _ _ _ _ => (pv 2)) (fun _ _ _ _ _ => (pe_callTy (ktuple (K := K) rfl) (by rfl) T.n_tuple (by decide +kernel) (pa_cons (pe_dget (hu_of hr) (pv 1) (pv 2) (fun _ _ => rfl)) pa_nil)))) (by rfl))))), fun a ds Qd h => ?_⟩
  obtain ⟨ps, rfl, hR, q⟩ := h
  obtain ⟨ks, hks, hk0, hk4, hkn, hkm, hkv⟩ := id hR
  have nd : (ps.map (·.1)).Nodup := by rw [hks]; exact nodup_inr hkn
  have look : ∀ {y : Str}, y ∈ ks → ∃ v, dget ps (Sum.inr y) = some v ∧ RankOk v := fun {y} hy => by
    have hm : (Sum.inr y : Key) ∈ ps.map (·.1) := by rw [hks]; exact List.mem_map_of_mem hy
    obtain ⟨p, hp, e⟩ := List.mem_map.mp hm
    obtain ⟨i, hi⟩ := List.mem_iff_getElem?.mp hp
    obtain ⟨k, v⟩ := p
    cases e
    exact ⟨v, dget_at nd hi, words_rank v (hkv v (List.mem_map.mpr ⟨_, hp, rfl⟩))⟩
  refine ws_seq <| ws_ifn (C := True) (et_not <| et_B <| ew_isi (by decide) <| ew_var rfl ⟨rfl, _, rfl, iteF ⟨rfl, trivial⟩⟩) fun _ => ?_
  refine ws_seq <| ws_forK (ps := ps) rfl (fun i ρ => ∃ s : Sl, s.isOwn = false ∧ ρ = [.own a (.ins "Office" []), .sh (.dk ps), s]) ⟨.un, rfl, rfl⟩ ?_ ?_
  · rintro i d ρ' hd ⟨s, hs, rfl⟩
    have hd2 := List.mem_of_getElem? hd
    obtain ⟨p, hp, rfl⟩ := List.mem_map.mp hd2
    have hm : p.1 ∈ ps.map (·.1) := List.mem_map_of_mem hp
    rw [hks] at hm
    obtain ⟨y, hy, e⟩ := List.mem_map.mp hm
    rw [← e]
    obtain ⟨v, hv, hr2⟩ := look hy
    refine gw_name <| ws_ifn (C := True) (et_or <| et_not <| et_B <| ew_callP <| ea_cons <| ew_var rfl <| ea_nil ⟨_, rfl, .str (menu_ok y (hkm y hy)).2, _, rfl, ?_⟩) fun _ => ⟨_, rfl, rfl⟩
    rw [show isNameD (kD (Sum.inr y)) = true from menu_names y (hkm y hy)]
    exact iteF <| et_not <| et_B <| ew_callP <| ea_cons <| ew_dgetk <| ew_var rfl <| ew_var rfl ⟨.inr y, ps, v, rfl, rfl, hv, ea_nil ⟨v, rfl, hr2, _, rfl, iteF ⟨rfl, trivial⟩⟩⟩
  · rintro ρ' ⟨s, hs, rfl⟩
    refine ws_fldset (a := a) O.cl O.na <| ew_new <| en_dc <| ei_inl <| ei_list <| ew_new <| en_cb <| ea_cons <| ew_var rfl <| ea_nil <| opn_sortD hks (by omega) fun ys hp hs2 => ⟨strsD ys, rfl, ?_, by rw [strsD_len, hp.length_eq]; omega, fun i acc => acc.map (·.1) = (ys.take i).map Sum.inr, rfl, ?_, ?_⟩
    · cases s <;> first | rfl | cases hs
    · intro i d acc hd p
      obtain ⟨y, hy, rfl⟩ : ∃ y, ys[i]? = some y ∧ d = .str y := by
        unfold strsD at hd
        rw [List.getElem?_map] at hd
        obtain ⟨y, hy, e⟩ := Option.map_eq_some_iff.mp hd
        exact ⟨y, hy, e.symm⟩
      have hyk : y ∈ ks := hp.mem_iff.mp (List.mem_of_getElem? hy)
      obtain ⟨v, hv, ⟨xs, rfl, _⟩⟩ := look hyk
      have hlt := (List.getElem?_eq_some_iff.mp hy).1
      have hny : y ∉ ys.take i := fun z => by
        obtain ⟨j, hj⟩ := List.mem_iff_getElem?.mp z
        rw [List.getElem?_take] at hj
        split at hj
        · have := (List.getElem?_inj hlt (hp.nodup_iff.mpr hkn)).mp (hy.trans hj.symm); omega
        · cases hj
      refine gv_name (by decide) <| et_yes ⟨rfl, iteT <| ew_var rfl ⟨rfl, ew_cb <| ea_cons <| ew_dgetk <| ew_var rfl <| ew_var rfl ⟨.inr y, ps, _, rfl, rfl, hv, ea_nil <| opa_tuple rfl ⟨rfl, .inr y, rfl, ?_⟩⟩⟩⟩
      show (dput acc (Sum.inr y) _).map (·.1) = (ys.take (i + 1)).map Sum.inr
      rw [dput_new p hny, List.map_append, p, List.take_succ, hy, List.map_append]
      rfl
    · intro acc hacc
      rw [strsD_len, List.take_length] at hacc
      refine ⟨[], rfl, by show 0 < 1000; decide, [("rows", .dk acc)], rfl, q acc (same_of fun x => ?_)⟩
      rw [hacc, hks]
      constructor
      · intro z
        obtain ⟨y, hy, e⟩ := List.mem_map.mp z
        exact List.mem_map.mpr ⟨y, hp.mem_iff.mp hy, e⟩
      · intro z
        obtain ⟨y, hy, e⟩ := List.mem_map.mp z
        exact List.mem_map.mpr ⟨y, hp.mem_iff.mpr hy, e⟩
end
end K01

set_option Elab.async false
set_option linter.all false
set_option maxRecDepth 100000
namespace K01
open PySem PySem.Spec PyProof.Rows L2 DL
section
variable {P : Program} {w : World} {K : PySem.W.Frag} {mg : Str → Option Value} {base : Heap}
abbrev N_law : List Str := ["_law_script", "_law_turn", "_law_draws", "_law_ranks", "_law_office", "_law_kind", "_law_events", "_law_things", "_law_event", "_law_thing", "_law_k"]
theorem S_law : FnScope N_law ["_law_script"] (defScope s_law) := ⟨rfl, rfl, rfl, by decide +kernel, rfl, by decide +kernel, by decide +kernel⟩
def TLaw : List D → (D → Prop) → Prop := fun ds Q => ∃ ns : List Int, ds = [.scr ns] ∧ Q (.bl true)
def InvL (ns : List Int) (ρ : DL.Env) : Prop := ∃ s1 s2 s3 s4 s5 s6 s7 s8 s9 : Sl, ρ = [.sh (.scr ns), s1, s2, s3, s4, s5, s6, s7, s8, s9, .un]
def InvT (ns : List Int) (i : D) (p : Addr) (ps qs : List (Key × D)) (kd : D) (evs : List D) (j : Nat) (ρ : DL.Env) : Prop := ∃ (ts : List D) (s8 s9 : Sl), ρ = [.sh (.scr ns), .sh i, .drw p, .sh (.dk ps), .sh (off qs), .sh kd, .sh (.lst evs), .sh (.lst ts), s8, s9, .un] ∧ ts.length ≤ 20 + 7 * j ∧ ∀ t ∈ ts, Ok t
theorem fn_P2 {x qual : Str} {params : Arguments} {body : List Stmt} {scope : Scope} {f : Addr} {fd : FuncData} {N ps : List Str} {k : Nat} {T : List D → (D → Prop) → Prop}
    (F : FunD K x qual params body scope [] [] f fd) (S : FnScope N ps scope) (hl : ∀ ds Qd, T ds Qd → ds.length = ps.length)
    (hb : ∀ (cdv : Value) (A : Around) (outer : List PySem.Env) (s : Shared) (H : Hp) (E : XK), Room k (A.deeper (envOfC qual scope s.heap.objs.size f cdv)) →
      ∃ t, PSs (cxOf CX0 P w K mg base N qual scope f cdv A outer s H E).nox body t ∧ ∀ ds Qd, T ds Qd → WS K t (envP N ds) { nx := fun _ => Qd .non, rt := fun d _ => Qd d }) :
    FnOk P w K mg base CX0 (k + 1) f fd ps (spP K T) := by
  refine F.ok S (fun vs H Q E h => ?_) (fun cdv A outer s H vs Q E hr h => ?_)
  · obtain ⟨_, _, ds, Qd, _, r, t, _⟩ := h
    rw [r.length]; exact hl ds Qd t
  · obtain ⟨F', G, ds, Qd, W, r, tt, post⟩ := h
    obtain ⟨t, hd, hw⟩ := hb cdv A outer s H E hr
    refine ⟨t, PSs.nox hd, ?_⟩
    have R : RE K F' G H (L2.start N vs) (envP N ds) := by
      unfold L2.start
      refine ⟨W, by rw [r.length]; exact slots_start _ r, by rw [own_start]; exact List.nodup_nil⟩
    refine hw ds Qd tt F' G H (L2.start N vs) _ R ⟨fun σ' ρ' G' H' e R' q => ?_, fun v d σ' ρ' G' H' e R' hv q => ?_, fun σ' ρ' G' H' e R' q => q.elim, fun σ' ρ' G' H' e R' q => q.elim, fun p d σ' ρ' G' H' e R' _ _ _ _ q => q.elim⟩
    · exact post .non .non G' H' e R'.wd .non q
    · exact post v d G' H' e R'.wd hv q
theorem ok_law {f : Addr} {fd : FuncData} (F : FunD K "law" "law" (defArgs s_law) (defBody s_law) (defScope s_law) [] [] f fd) (T : TX K mg) (O : OF K) (I : OI K) : FnOk P w K mg base CX0 6 f fd ["_law_script"] (spP K TLaw) := by
  have G__law_source := ok_law_source (P := P) (w := w) (base := base) T
  have G__law_some_ranks := ok_law_some_ranks (P := P) (w := w) (base := base) T
  have I_Office := ok_Office (P := P) (w := w) (base := base) T O I
  have G__law_pick := ok_law_pick (P := P) (w := w) (base := base) T
  have G__law_some_events := ok_law_some_events (P := P) (w := w) (base := base) T
  have G__law_bent := ok_law_bent (P := P) (w := w) (base := base) T
  have G__law_same := ok_law_same (P := P) (w := w) (base := base) T
  have G_is_event := ok_is_event (P := P) (w := w) (base := base) T O
  have G__law_is_due := ok_law_is_due (P := P) (w := w) (base := base) T
  refine fn_P2 (k := 5) F S_law (fun ds Qd h => by obtain ⟨ns, rfl, _⟩ := h; rfl) fun cdv A outer s H E hr => ⟨_, (pss_cons (ps_for PassesOwn.never rfl (pi_range1 (by rfl) T.n_range (pa_cons (pe_op op_add pe_int (pe_callB (call_min2 rfl) (by rfl) T.n_min (by decide +kernel) (pa_cons (pe_callB (klen (K := K) rfl) (by rfl) T.n_len (by decide +kernel) (pa_cons (pv 0) pa_nil)) (pa_cons pe_int pa_nil)))) pa_nil)) (pg_name (i := 1) S_law.nd rfl (by first | exact .inl rfl | exact .inr rfl))
      (pss_cons (ps_set (i := 2) S_law.nd rfl (by first | exact .inl rfl | exact .inr rfl) (pe_callF G__law_source (hr.mono (by decide)) (pa_cons (pv 0) (pa_cons (pv 1) pa_nil))))
      (pss_cons (ps_set (i := 3) S_law.nd rfl (by first | exact .inl rfl | exact .inr rfl) (pe_callF G__law_some_ranks (hr.mono (by decide)) (pa_cons (pv 2) (pa_cons pe_int pa_nil))))
      (pss_cons (ps_par (i := 4) (j := 5) (by rfl) S_law.nd rfl rfl (by decide) (by rfl) (by rfl) (pa_cons (pe_makeF I_Office (hr.mono (by decide)) (pa_cons (pv 3) pa_nil)) (pa_cons (pe_callF G__law_pick (hr.mono (by decide)) (pa_cons (pv 2) (pa_cons (pe_callB (csortD rfl) (by rfl) T.n_sorted (by decide +kernel) (pa_cons (pv 3) pa_nil)) pa_nil))) pa_nil)) (by rfl))
      (pss_cons (ps_set (i := 6) S_law.nd rfl (by first | exact .inl rfl | exact .inr rfl) (pe_listVals rfl (by rfl) T.n_list (pe_callF G__law_some_events (hr.mono (by decide)) (pa_cons (pv 2) (pa_cons (pv 3) (pa_cons pe_int (pa_cons pe_bl pa_nil)))))))
      (pss_cons (ps_set (i := 6) S_law.nd rfl (by first | exact .inl rfl | exact .inr rfl) (pe_op op_cat (pv 6) (pe_lst (pa_cons (pe_tup (pa_cons pe_str pa_nil)) (pa_cons (pe_tup (pa_cons pe_str pa_nil)) (pa_cons (pe_tup (pa_cons pe_str (pa_cons pe_str pa_nil))) (pa_cons (pe_tup (pa_cons pe_str (pa_cons pe_str (pa_cons (pe_tup pa_nil) pa_nil)))) (pa_cons (pe_tup (pa_cons pe_str (pa_cons (pv 5) pa_nil))) pa_nil))))))))
      (pss_cons (ps_set (i := 7) S_law.nd rfl (by first | exact .inl rfl | exact .inr rfl) (pe_lst (pa_cons pe_non (pa_cons pe_int (pa_cons pe_str (pa_cons (pe_tup pa_nil) (pa_cons (pe_lst pa_nil) (pa_cons pe_dnewK (pa_cons (pe_tup (pa_cons (pv 5) pa_nil)) (pa_cons (pe_tup (pa_cons pe_str pa_nil)) (pa_cons (pe_tup (pa_cons pe_str (pa_cons pe_non pa_nil))) (pa_cons (pe_tup (pa_cons pe_str (pa_cons pe_str (pa_cons (pe_tup pa_nil) (pa_cons pe_int pa_nil))))) pa_nil))))))))))))
      (pss_cons (ps_set (i := 7) S_law.nd rfl (by first | exact .inl rfl | exact .inr rfl) (pe_op op_cat (pv 7) (pe_lst (pa_cons (pe_tup (pa_cons pe_str (pa_cons pe_str pa_nil))) (pa_cons (pe_tup (pa_cons pe_str (pa_cons pe_str pa_nil))) (pa_cons (pe_tup (pa_cons pe_str (pa_cons pe_str pa_nil))) pa_nil))))))
      (pss_cons (ps_set (i := 7) S_law.nd rfl (by first | exact .inl rfl | exact .inr rfl) (pe_op op_cat (pv 7) (pe_lst (pa_cons (pe_tup (pa_cons pe_str (pa_cons pe_str pa_nil))) (pa_cons (pe_tup (pa_cons pe_str (pa_cons pe_str pa_nil))) (pa_cons (pe_tup (pa_cons pe_str (pa_cons pe_str pa_nil))) (pa_cons (pe_tup (pa_cons pe_str (pa_cons pe_str pa_nil))) pa_nil)))))))
      (pss_cons (ps_set (i := 7) S_law.nd rfl (by first | exact .inl rfl | exact .inr rfl) (pe_op op_cat (pv 7) (pe_lst (pa_cons (pe_tup (pa_cons pe_str (pa_cons pe_str (pa_cons (pe_lst pa_nil) (pa_cons (pe_op op_pow pe_int pe_int) (pa_cons pe_non pa_nil)))))) (pa_cons (pe_tup (pa_cons pe_str (pa_cons pe_str (pa_cons (pe_lst (pa_cons (pv 5) pa_nil)) (pa_cons pe_int (pa_cons (pv 5) pa_nil)))))) (pa_cons (pe_tup (pa_cons pe_str (pa_cons pe_str pa_nil))) pa_nil))))))
      (pss_cons (ps_for PassesOwn.never rfl (kwU (K := K) rfl (pv 6)) (pg_name (i := 8) S_law.nd rfl (by first | exact .inl rfl | exact .inr rfl))
      (pss_one (ps_set (i := 7) S_law.nd rfl (by first | exact .inl rfl | exact .inr rfl) (pe_op op_cat (pe_op op_cat (pv 7) (pe_lst (pa_cons (pv 8) (pa_cons (pe_callTy (klist (K := K) rfl) (by rfl) T.n_list (by decide +kernel) (pa_cons (pv 8) pa_nil)) pa_nil)))) (pe_lc (own := [("_law_k", 10)]) rfl S_law.nd (pi_range1 (by rfl) T.n_range (pa_cons pe_int pa_nil)) (blkOk_by (own := [("_law_k", 10)]) (N := N_law) (sc := defScope s_law) (by decide +kernel)) (fun _ _ _ _ _ => (pg_name (i := 10) S_law.nd rfl (by first | exact .inl rfl | exact .inr rfl))) (fun _ _ _ _ _ => pts_nil) (fun _ _ _ _ _ => (pe_callF G__law_bent (hr.mono (by decide)) (pa_cons (pv 2) (pa_cons (pv 3) (pa_cons (pv 8) pa_nil))))))))))
      (pss_one (ps_for PassesOwn.never rfl (kwU (K := K) rfl (pv 7)) (pg_name (i := 9) S_law.nd rfl (by first | exact .inl rfl | exact .inr rfl))
      (pss_one (ps_if (pt_not (pt_val (pe_callF G__law_same (hr.mono (by decide)) (pa_cons (pe_callF G_is_event (hr.mono (by decide)) (pa_cons (pv 4) (pa_cons (pv 9) pa_nil))) (pa_cons (pe_callF G__law_is_due (hr.mono (by decide)) (pa_cons (pv 3) (pa_cons (pv 9) pa_nil))) pa_nil))))) (pss_one (ps_ret pe_bl)) pss_nil)))))))))))))))
      (pss_one (ps_ret pe_bl))), fun ds Qd h => ?_⟩
  obtain ⟨ns, rfl, q⟩ := h
  have c1 : ∀ {n : Nat}, n ≤ 30 → n ≤ 100000 := fun h => by omega
  refine ws_seq <| ws_for <| ei_range1 <| ea_cons <| ew_op <| ew_int <| ew_cb <| ea_cons <| ew_cb <| ea_cons <| ew_var rfl <| ea_nil <| opa_len_scr <| ea_cons <| ew_int <| ea_nil <| opa_min <| op2_int <| ea_nil ⟨_, rfl, ?_, ?_, fun _ ρ => InvL ns ρ, ⟨_, _, _, _, _, _, _, _, _, rfl⟩, ?_, fun ρ' h => ?_⟩
  · split <;> omega
  · split <;> omega
  · rintro i d ρ' hd ⟨s1, s2, s3, s4, s5, s6, s7, s8, s9, rfl⟩
    obtain ⟨j, hj, rfl⟩ : ∃ j : Nat, True ∧ d = .int (j : Nat) := by
      rw [List.getElem?_map] at hd
      obtain ⟨j, hj, e⟩ := Option.map_eq_some_iff.mp hd
      exact ⟨j, trivial, by rw [← e, Int.zero_add]⟩
    refine gw_name <| ws_seq <| ws_asgD <| en_callN <| ea_cons <| ew_var rfl <| ea_cons <| ew_var rfl <| ea_nil ⟨ns, j, rfl, fun x y => ⟨x, y, 0, rfl, fun p => ?_⟩⟩
    refine ws_seq <| ws_asg <| ew_callW rfl <| ea_cons <| ew_int <| ea_nil ⟨rfl, rfl, fun ps hR => gw_name ?_⟩
    obtain ⟨ks, hks, hk0, hk4, hkn, hkm, hkv⟩ := id hR
    have sort : ∀ {Q : D → DL.Env → Prop} {ρ : DL.Env}, (∀ ys : List Str, 0 < ys.length → ys.length ≤ 4 → (∀ d ∈ strsD ys, Ok d) → Q (.lst (strsD ys)) ρ) → OpN K rSortD [.dk ps] ρ Q := fun h => opn_sortD hks (by omega) fun ys hp hs => h ys (by rw [hp.length_eq]; exact hk0) (by rw [hp.length_eq]; exact hk4) (ok_strs (fun x z => hkm x (hp.mem_iff.mp z)) menu_ok)
    refine ws_seq <| ws_par <| ea_cons <| ew_make <| ea_cons <| ew_var rfl <| ea_nil ⟨ps, rfl, hR, fun qs hqs => ?_⟩
    refine ea_cons <| ew_callW rfl <| ea_cons <| ew_new <| en_cb <| ea_cons <| ew_var rfl <| ea_nil <| sort fun ys l0 l4 hys => ea_nil ⟨rfl, _, _, rfl, rfl, by rw [strsD_len]; exact l0, by rw [strsD_len]; omega, fun kd hkd => ea_nil ⟨_, _, rfl, ?_⟩⟩
    have hk : Ok kd := hys kd hkd
    refine ws_seq <| ws_asg <| ew_new <| en_listVals <| ew_callW rfl <| ea_cons <| ew_var rfl <| ea_cons <| ew_int <| ea_cons <| ew_bl <| ea_nil ⟨rfl, ps, true, rfl, hR, fun es hle hev => ⟨es, rfl, gw_name ?_⟩⟩
    have hlev : (es.map (·.2)).length ≤ 8 := by rw [List.length_map]; exact hle
    have okE : ∀ {e : D}, Event e → Ok e := fun h => by
      obtain ⟨xs, rfl, _, h5, ho⟩ := h
      exact .tup (by omega) ho
    have t2 : ∀ {x y : D}, Ok x → Ok y → Ok (.tup [x, y]) := fun h h' => .tup (by show 2 ≤ 1000; decide) (mem2 h h')
    have t1 : ∀ {x : D}, Ok x → Ok (.tup [x]) := fun h => .tup (by show 1 ≤ 1000; decide) (mem1 h)
    have t0 : Ok (.tup []) := .tup (by show 0 ≤ 1000; decide) memn
    have l0 : Ok (.lst []) := .lst (by show 0 ≤ 1000; decide) memn
    have l1 : ∀ {x : D}, Ok x → Ok (.lst [x]) := fun h => .lst (by show 1 ≤ 1000; decide) (mem1 h)
    refine ws_seq <| ws_asg <| ew_new <| en_cat <| ew_var rfl <| ew_new <| en_lst <| ea_cons <| ew_tup <| ea_cons <| ew_str <| ea_nil ⟨c1 (by show 1 ≤ 30; decide), ?_⟩
    refine ea_cons <| ew_tup <| ea_cons <| ew_str <| ea_nil ⟨c1 (by show 1 ≤ 30; decide), ?_⟩
    refine ea_cons <| ew_tup <| ea_cons <| ew_str <| ea_cons <| ew_str <| ea_nil ⟨c1 (by show 2 ≤ 30; decide), ?_⟩
    refine ea_cons <| ew_tup <| ea_cons <| ew_str <| ea_cons <| ew_str <| ea_cons <| ew_tup <| ea_nil ⟨c1 (by show 0 ≤ 30; decide), ea_nil ⟨c1 (by show 3 ≤ 30; decide), ?_⟩⟩
    refine ea_cons <| ew_tup <| ea_cons <| ew_str <| ea_cons <| ew_var rfl <| ea_nil ⟨c1 (by show 2 ≤ 30; decide), ?_⟩
    refine ea_nil ⟨c1 (by show 5 ≤ 30; decide), _, _, rfl, rfl, by show _ + 5 ≤ _; omega, gw_name ?_⟩
    have hevA : ∀ e ∈ (es.map (·.2) ++ [.tup [.str "gather"], .tup [.str "round"], .tup [.str "leave", .str "zz"], .tup [.str "change", .str "bob", .tup []], .tup [.str "withdraw", kd]] : List D), Event e :=
      mema hev <| memc (ev1 (okS (by decide +kernel))) <| memc (ev1 (okS (by decide +kernel))) <| memc (ev2 (okS (by decide +kernel)) (okS (by decide +kernel))) <| memc (ev3 (okS (by decide +kernel)) (okS (by decide +kernel)) t0) <| memc (ev2 (okS (by decide +kernel)) hk) memn
    have hevL : (es.map (·.2) ++ [.tup [.str "gather"], .tup [.str "round"], .tup [.str "leave", .str "zz"], .tup [.str "change", .str "bob", .tup []], .tup [.str "withdraw", kd]] : List D).length ≤ 13 := by
      rw [List.length_append]; show _ + 5 ≤ _; omega
    refine ws_seq <| ws_asg <| ew_new <| en_lst <| ea_cons <| ew_non <| ea_cons <| ew_int <| ea_cons <| ew_str <| ea_cons <| ew_tup <| ea_nil ⟨c1 (by show 0 ≤ 30; decide), ?_⟩
    refine ea_cons <| ew_new <| en_lst <| ea_nil ⟨c1 (by show 0 ≤ 30; decide), ?_⟩
    refine ea_cons <| ew_new <| en_dnewK <| ea_cons <| ew_tup <| ea_cons <| ew_var rfl <| ea_nil ⟨c1 (by show 1 ≤ 30; decide), ?_⟩
    refine ea_cons <| ew_tup <| ea_cons <| ew_str <| ea_nil ⟨c1 (by show 1 ≤ 30; decide), ?_⟩
    refine ea_cons <| ew_tup <| ea_cons <| ew_str <| ea_cons <| ew_non <| ea_nil ⟨c1 (by show 2 ≤ 30; decide), ?_⟩
    refine ea_cons <| ew_tup <| ea_cons <| ew_str <| ea_cons <| ew_str <| ea_cons <| ew_tup <| ea_nil ⟨c1 (by show 0 ≤ 30; decide), ea_cons <| ew_int <| ea_nil ⟨c1 (by show 4 ≤ 30; decide), ?_⟩⟩
    refine ea_nil ⟨c1 (by show 10 ≤ 30; decide), gw_name ?_⟩
    refine ws_seq <| ws_asg <| ew_new <| en_cat <| ew_var rfl <| ew_new <| en_lst <| ea_cons <| ew_tup <| ea_cons <| ew_str <| ea_cons <| ew_str <| ea_nil ⟨c1 (by show 2 ≤ 30; decide), ?_⟩
    refine ea_cons <| ew_tup <| ea_cons <| ew_str <| ea_cons <| ew_str <| ea_nil ⟨c1 (by show 2 ≤ 30; decide), ?_⟩
    refine ea_cons <| ew_tup <| ea_cons <| ew_str <| ea_cons <| ew_str <| ea_nil ⟨c1 (by show 2 ≤ 30; decide), ?_⟩
    refine ea_nil ⟨c1 (by show 3 ≤ 30; decide), _, _, rfl, rfl, by show 10 + 3 ≤ 90000; decide, gw_name ?_⟩
    refine ws_seq <| ws_asg <| ew_new <| en_cat <| ew_var rfl <| ew_new <| en_lst <| ea_cons <| ew_tup <| ea_cons <| ew_str <| ea_cons <| ew_str <| ea_nil ⟨c1 (by show 2 ≤ 30; decide), ?_⟩
    refine ea_cons <| ew_tup <| ea_cons <| ew_str <| ea_cons <| ew_str <| ea_nil ⟨c1 (by show 2 ≤ 30; decide), ?_⟩
    refine ea_cons <| ew_tup <| ea_cons <| ew_str <| ea_cons <| ew_str <| ea_nil ⟨c1 (by show 2 ≤ 30; decide), ?_⟩
    refine ea_cons <| ew_tup <| ea_cons <| ew_str <| ea_cons <| ew_str <| ea_nil ⟨c1 (by show 2 ≤ 30; decide), ?_⟩
    refine ea_nil ⟨c1 (by show 4 ≤ 30; decide), _, _, rfl, rfl, by show 13 + 4 ≤ 90000; decide, gw_name ?_⟩
    refine ws_seq <| ws_asg <| ew_new <| en_cat <| ew_var rfl <| ew_new <| en_lst <| ea_cons <| ew_tup <| ea_cons <| ew_str <| ea_cons <| ew_str <| ea_cons <| ew_new <| en_lst <| ea_nil ⟨c1 (by show 0 ≤ 30; decide), ?_⟩
    refine ea_cons <| ew_op <| ew_int <| ew_int <| op2_intC ⟨by decide, by decide, by decide⟩ <| ea_cons <| ew_non <| ea_nil ⟨c1 (by show 5 ≤ 30; decide), ?_⟩
    refine ea_cons <| ew_tup <| ea_cons <| ew_str <| ea_cons <| ew_str <| ea_cons <| ew_new <| en_lst <| ea_cons <| ew_var rfl <| ea_nil ⟨c1 (by show 1 ≤ 30; decide), ?_⟩
    refine ea_cons <| ew_int <| ea_cons <| ew_var rfl <| ea_nil ⟨c1 (by show 5 ≤ 30; decide), ?_⟩
    refine ea_cons <| ew_tup <| ea_cons <| ew_str <| ea_cons <| ew_str <| ea_nil ⟨c1 (by show 2 ≤ 30; decide), ?_⟩
    refine ea_nil ⟨c1 (by show 3 ≤ 30; decide), _, _, rfl, rfl, by show 17 + 3 ≤ 90000; decide, gw_name ?_⟩
    have st : ∀ {x : Str}, decide (x.length ≤ 1000) = true → Ok (.str x) := okS
    refine ws_seq <| ws_for <| ei_inl <| ei_list <| ew_var rfl ⟨_, rfl, InvT ns (.int j) p ps qs kd _, ⟨_, _, _, rfl, by show 20 ≤ 20; decide, ?_⟩, ?_, ?_⟩
    · refine mema (mema (mema (memc .non <| memc okInt <| memc (st (by decide +kernel)) <| memc t0 <| memc l0 <| memc (.dk (by show 0 ≤ 1000; decide)) <| memc (t1 hk) <| memc (t1 (st (by decide +kernel))) <| memc (t2 (st (by decide +kernel)) .non) <| memc (.tup (by show 4 ≤ 1000; decide) (memc (st (by decide +kernel)) <| memc (st (by decide +kernel)) <| memc t0 <| memc okInt memn)) memn) ?_) ?_) ?_
      · exact memc (t2 (st (by decide +kernel)) (st (by decide +kernel))) <| memc (t2 (st (by decide +kernel)) (st (by decide +kernel))) <| memc (t2 (st (by decide +kernel)) (st (by decide +kernel))) memn
      · exact memc (t2 (st (by decide +kernel)) (st (by decide +kernel))) <| memc (t2 (st (by decide +kernel)) (st (by decide +kernel))) <| memc (t2 (st (by decide +kernel)) (st (by decide +kernel))) <| memc (t2 (st (by decide +kernel)) (st (by decide +kernel))) memn
      · exact memc (.tup (by show 5 ≤ 1000; decide) (memc (st (by decide +kernel)) <| memc (st (by decide +kernel)) <| memc l0 <| memc okInt <| memc .non memn)) <| memc (.tup (by show 5 ≤ 1000; decide) (memc (st (by decide +kernel)) <| memc (st (by decide +kernel)) <| memc (l1 hk) <| memc okInt <| memc hk memn)) <| memc (t2 (st (by decide +kernel)) (st (by decide +kernel))) memn
    · rintro m e ρ' he ⟨ts, s8, s9, rfl, hts, hto⟩
      have hE : Event e := hevA e (List.mem_of_getElem? he)
      have hm : m < 13 := Nat.lt_of_lt_of_le (List.getElem?_eq_some_iff.mp he).1 hevL
      have hEo := okE hE
      obtain ⟨xs, rfl, hx1, hx5, hxo⟩ := id hE
      refine gw_name <| ws_asg <| ew_new <| en_cat <| ew_new <| en_cat <| ew_var rfl <| ew_new <| en_lst <| ea_cons <| ew_var rfl <| ea_cons <| ew_new <| en_cb <| ea_cons <| ew_var rfl <| ea_nil <| opn_list rfl <| ea_nil ⟨c1 (by show 2 ≤ 30; decide), _, _, rfl, rfl, by show _ + 2 ≤ _; omega, ?_⟩
      refine ew_new <| en_lc <| ei_range1 <| ea_cons <| ew_int <| ea_nil ⟨5, rfl, by decide, by decide, rfl, by show 5 ≤ 90000; decide, fun i acc => acc.length = i ∧ ∀ d ∈ acc, Ok d, ⟨rfl, memn⟩, ?_, ?_⟩
      · rintro i2 d2 acc hd2 ⟨ha, hb⟩
        exact gv_name (by decide) <| et_yes ⟨rfl, iteT <| ew_callW rfl <| ea_cons <| ew_var rfl <| ea_cons <| ew_var rfl <| ea_nil ⟨rfl, ps, _, rfl, hR, hE, fun y hy => ⟨rfl, by simp [ha], mema hb (mem1 hy)⟩⟩⟩
      · rintro acc ⟨ha, hb⟩
        have ha5 : acc.length = 5 := ha
        refine ⟨_, _, rfl, rfl, ?_, gw_name ⟨_, _, _, rfl, ?_, ?_⟩⟩
        · rw [List.length_append, ha5]; show _ + 2 + 5 ≤ _; omega
        · rw [List.length_append, List.length_append, ha5]; show _ + 2 + 5 ≤ _; omega
        · exact mema (mema hto (mem2 hEo (.lst (by omega) hxo))) hb
    · rintro ρ' ⟨ts, s8, s9, rfl, hts, hto⟩
      refine ws_for <| ei_inl <| ei_list <| ew_var rfl ⟨ts, rfl, fun _ ρ => ∃ s9 : Sl, ρ = [.sh (.scr ns), .sh (.int j), .drw p, .sh (.dk ps), .sh (off qs), .sh kd, .sh (.lst _), .sh (.lst ts), s8, s9, .un], ⟨s9, rfl⟩, ?_, ?_⟩
      · rintro m d ρ' hd ⟨s9', rfl⟩
        have hdo : Ok d := hto d (List.mem_of_getElem? hd)
        refine gw_name <| ws_ifn (C := True) (et_not <| et_B <| ew_callP <| ea_cons <| ew_callP <| ea_cons <| ew_var rfl <| ea_cons <| ew_var rfl <| ea_nil ⟨qs, d, rfl, hdo, ea_cons <| ew_callP <| ea_cons <| ew_var rfl <| ea_cons <| ew_var rfl <| ea_nil ⟨ps, d, rfl, hdo, ea_nil ⟨_, _, rfl, _, rfl, ?_⟩⟩⟩) fun _ => ⟨_, rfl⟩
        rw [event_same hqs d, decide_eq_true rfl]
        exact iteF ⟨rfl, trivial⟩
      · rintro ρ' ⟨s9', rfl⟩
        exact ⟨_, _, _, _, _, _, _, _, _, rfl⟩
  · exact ws_ret <| ew_bl q
end
end K01

set_option Elab.async false
set_option linter.all false
set_option maxRecDepth 100000
set_option maxHeartbeats 0
namespace HD
open PySem PySem.Spec PyProof.Rows L2
def top (i : Nat) : Stmt := PySem.Challenge.pw_seatroads_k01_events_known.main.body.getD i (.Pass ⟨0, 0, 0, 0⟩)
def inCls (i j : Nat) : Stmt := match top i with
  | .ClassDef _ _ _ b _ _ _ _ _ _ _ => b.getD j (.Pass ⟨0, 0, 0, 0⟩)
  | _ => .Pass ⟨0, 0, 0, 0⟩

abbrev s_is_list : Stmt := (top 4)
def d_is_list : He.DefD := ⟨("is_list", none), "is_list", "is_list", defArgs s_is_list, defBody s_is_list, defScope s_is_list, [], []⟩
abbrev s_is_name : Stmt := (top 5)
def d_is_name : He.DefD := ⟨("is_name", none), "is_name", "is_name", defArgs s_is_name, defBody s_is_name, defScope s_is_name, [], []⟩
abbrev s_is_whole : Stmt := (top 6)
def d_is_whole : He.DefD := ⟨("is_whole", none), "is_whole", "is_whole", defArgs s_is_whole, defBody s_is_whole, defScope s_is_whole, [], []⟩
abbrev s_is_time : Stmt := (top 7)
def d_is_time : He.DefD := ⟨("is_time", none), "is_time", "is_time", defArgs s_is_time, defBody s_is_time, defScope s_is_time, [], []⟩
abbrev s_is_key : Stmt := (top 8)
def d_is_key : He.DefD := ⟨("is_key", none), "is_key", "is_key", defArgs s_is_key, defBody s_is_key, defScope s_is_key, [], []⟩
abbrev s_are_unlike : Stmt := (top 9)
def d_are_unlike : He.DefD := ⟨("are_unlike", none), "are_unlike", "are_unlike", defArgs s_are_unlike, defBody s_are_unlike, defScope s_are_unlike, [], []⟩
abbrev s_are_wishes : Stmt := (top 13)
def d_are_wishes : He.DefD := ⟨("are_wishes", none), "are_wishes", "are_wishes", defArgs s_are_wishes, defBody s_are_wishes, defScope s_are_wishes, [], []⟩
abbrev s_is_coming : Stmt := (top 14)
def d_is_coming : He.DefD := ⟨("is_coming", none), "is_coming", "is_coming", defArgs s_is_coming, defBody s_is_coming, defScope s_is_coming, [], []⟩
abbrev s_is_event : Stmt := (top 15)
def d_is_event : He.DefD := ⟨("is_event", none), "is_event", "is_event", defArgs s_is_event, defBody s_is_event, defScope s_is_event, [], []⟩
abbrev s_BadRank___init__ : Stmt := (inCls 18 0)
def d_BadRank___init__ : He.DefD := ⟨("BadRank", some "__init__"), "__init__", "BadRank.__init__", defArgs s_BadRank___init__, defBody s_BadRank___init__, defScope s_BadRank___init__, [], []⟩
abbrev s_BadKind___init__ : Stmt := (inCls 19 0)
def d_BadKind___init__ : He.DefD := ⟨("BadKind", some "__init__"), "__init__", "BadKind.__init__", defArgs s_BadKind___init__, defBody s_BadKind___init__, defScope s_BadKind___init__, [], []⟩
abbrev s_is_rank : Stmt := (top 22)
def d_is_rank : He.DefD := ⟨("is_rank", none), "is_rank", "is_rank", defArgs s_is_rank, defBody s_is_rank, defScope s_is_rank, [], []⟩
abbrev s_Office___init__ : Stmt := (inCls 23 0)
def d_Office___init__ : He.DefD := ⟨("Office", some "__init__"), "__init__", "Office.__init__", defArgs s_Office___init__, defBody s_Office___init__, defScope s_Office___init__, [], []⟩
abbrev s_Office_kinds : Stmt := (inCls 23 1)
def d_Office_kinds : He.DefD := ⟨("Office", some "kinds"), "kinds", "Office.kinds", defArgs s_Office_kinds, defBody s_Office_kinds, defScope s_Office_kinds, [], []⟩
abbrev s_Office_rank : Stmt := (inCls 23 2)
def d_Office_rank : He.DefD := ⟨("Office", some "rank"), "rank", "Office.rank", defArgs s_Office_rank, defBody s_Office_rank, defScope s_Office_rank, [], []⟩
abbrev s_Office___len__ : Stmt := (inCls 23 3)
def d_Office___len__ : He.DefD := ⟨("Office", some "__len__"), "__len__", "Office.__len__", defArgs s_Office___len__, defBody s_Office___len__, defScope s_Office___len__, [], []⟩
abbrev s_Office___iter__ : Stmt := (inCls 23 4)
def d_Office___iter__ : He.DefD := ⟨("Office", some "__iter__"), "__iter__", "Office.__iter__", defArgs s_Office___iter__, defBody s_Office___iter__, defScope s_Office___iter__, [], []⟩
abbrev s_Office___contains__ : Stmt := (inCls 23 5)
def d_Office___contains__ : He.DefD := ⟨("Office", some "__contains__"), "__contains__", "Office.__contains__", defArgs s_Office___contains__, defBody s_Office___contains__, defScope s_Office___contains__, [], []⟩
abbrev s_Office___eq__ : Stmt := (inCls 23 6)
def d_Office___eq__ : He.DefD := ⟨("Office", some "__eq__"), "__eq__", "Office.__eq__", defArgs s_Office___eq__, defBody s_Office___eq__, defScope s_Office___eq__, [], []⟩
abbrev s__law_source : Stmt := (top 25)
def d__law_source : He.DefD := ⟨("_law_source", none), "_law_source", "_law_source", defArgs s__law_source, defBody s__law_source, defScope s__law_source, [], []⟩
abbrev s__law_draw : Stmt := (top 26)
def d__law_draw : He.DefD := ⟨("_law_draw", none), "_law_draw", "_law_draw", defArgs s__law_draw, defBody s__law_draw, defScope s__law_draw, [], []⟩
abbrev s__law_pick : Stmt := (top 27)
def d__law_pick : He.DefD := ⟨("_law_pick", none), "_law_pick", "_law_pick", defArgs s__law_pick, defBody s__law_pick, defScope s__law_pick, [], []⟩
abbrev s__law_same : Stmt := (top 28)
def d__law_same : He.DefD := ⟨("_law_same", none), "_law_same", "_law_same", defArgs s__law_same, defBody s__law_same, defScope s__law_same, [], []⟩
abbrev s__law_some_ranks : Stmt := (top 29)
def d__law_some_ranks : He.DefD := ⟨("_law_some_ranks", none), "_law_some_ranks", "_law_some_ranks", defArgs s__law_some_ranks, defBody s__law_some_ranks, defScope s__law_some_ranks, [], []⟩
abbrev s__law_some_wishes : Stmt := (top 30)
def d__law_some_wishes : He.DefD := ⟨("_law_some_wishes", none), "_law_some_wishes", "_law_some_wishes", defArgs s__law_some_wishes, defBody s__law_some_wishes, defScope s__law_some_wishes, [], []⟩
abbrev s__law_some_come : Stmt := (top 31)
def d__law_some_come : He.DefD := ⟨("_law_some_come", none), "_law_some_come", "_law_some_come", defArgs s__law_some_come, defBody s__law_some_come, defScope s__law_some_come, [], []⟩
abbrev s__law_some_event : Stmt := (top 32)
def d__law_some_event : He.DefD := ⟨("_law_some_event", none), "_law_some_event", "_law_some_event", defArgs s__law_some_event, defBody s__law_some_event, defScope s__law_some_event, [], []⟩
abbrev s__law_some_events : Stmt := (top 33)
def d__law_some_events : He.DefD := ⟨("_law_some_events", none), "_law_some_events", "_law_some_events", defArgs s__law_some_events, defBody s__law_some_events, defScope s__law_some_events, [], []⟩
abbrev s__law_is_name : Stmt := (top 34)
def d__law_is_name : He.DefD := ⟨("_law_is_name", none), "_law_is_name", "_law_is_name", defArgs s__law_is_name, defBody s__law_is_name, defScope s__law_is_name, [], []⟩
abbrev s__law_are_wishes : Stmt := (top 35)
def d__law_are_wishes : He.DefD := ⟨("_law_are_wishes", none), "_law_are_wishes", "_law_are_wishes", defArgs s__law_are_wishes, defBody s__law_are_wishes, defScope s__law_are_wishes, [], []⟩
abbrev s__law_is_kind : Stmt := (top 36)
def d__law_is_kind : He.DefD := ⟨("_law_is_kind", none), "_law_is_kind", "_law_is_kind", defArgs s__law_is_kind, defBody s__law_is_kind, defScope s__law_is_kind, [], []⟩
abbrev s__law_is_due : Stmt := (top 37)
def d__law_is_due : He.DefD := ⟨("_law_is_due", none), "_law_is_due", "_law_is_due", defArgs s__law_is_due, defBody s__law_is_due, defScope s__law_is_due, [], []⟩
abbrev s__law_bent : Stmt := (top 38)
def d__law_bent : He.DefD := ⟨("_law_bent", none), "_law_bent", "_law_bent", defArgs s__law_bent, defBody s__law_bent, defScope s__law_bent, [], []⟩
abbrev s_law : Stmt := (top 39)
def d_law : He.DefD := ⟨("law", none), "law", "law", defArgs s_law, defBody s_law, defScope s_law, [], []⟩
def fn : List He.DefD := [d_is_list, d_is_name, d_is_whole, d_is_time, d_is_key, d_are_unlike, d_are_wishes, d_is_coming, d_is_event, d_is_rank, d_Office___init__, d_Office_kinds, d_Office_rank, d_Office___len__, d_Office___iter__, d_Office___contains__, d_Office___eq__, d__law_source, d__law_draw, d__law_pick, d__law_same, d__law_some_ranks, d__law_some_wishes, d__law_some_come, d__law_some_event, d__law_some_events, d__law_is_name, d__law_are_wishes, d__law_is_kind, d__law_is_due, d__law_bent, d_law]
def fa : List He.Fa := [.glo "is_list",
  .glo "is_name",
  .glo "is_whole",
  .glo "is_time",
  .glo "is_key",
  .glo "are_unlike",
  .glo "are_wishes",
  .glo "is_coming",
  .glo "is_event",
  .glo "OfficeError",
  .glo "BadRank",
  .glo "BadKind",
  .glo "is_rank",
  .glo "Office",
  .glo "_law_source",
  .glo "_law_draw",
  .glo "_law_pick",
  .glo "_law_same",
  .glo "_law_some_ranks",
  .glo "_law_some_wishes",
  .glo "_law_some_come",
  .glo "_law_some_event",
  .glo "_law_some_events",
  .glo "_law_is_name",
  .glo "_law_are_wishes",
  .glo "_law_is_kind",
  .glo "_law_is_due",
  .glo "_law_bent",
  .glo "law",
  .free "TypeError",
  .free "ValueError",
  .free "all",
  .free "bool",
  .free "dict",
  .free "enumerate",
  .free "int",
  .free "isinstance",
  .free "len",
  .free "list",
  .free "min",
  .free "range",
  .free "set",
  .free "sorted",
  .free "str",
  .free "super",
  .free "tuple",
  .free "zip",
  .str "SIGNS" "abcdefghijklmnopqrstuvwxyz0123456789",
  .int "LONGEST" 8,
  .int "GREATEST" 1000000,
  .glo "SHORT",
  .glo "OF_PLACES",
  .glo "WORDS",
  .cls "Office",
  .mkr "Office",
  .meth "Office" "kinds",
  .meth "Office" "rank",
  .noat "Office" "rows"]
def ex (K : PySem.W.Frag) : Bool := He.tupB K "SHORT" [.str "gather", .str "round"] && He.tupB K "OF_PLACES" [.str "place", .str "withdraw"] && He.tupB K "WORDS" [.str "points", .str "few", .str "home", .str "early", .str "late"]
def loose : List Str := (["__name__", "SIGNS", "LONGEST", "GREATEST", "is_list", "is_name", "is_whole", "is_time", "is_key", "are_unlike", "SHORT", "OF_PLACES", "are_wishes", "is_coming", "is_event", "OfficeError", "BadRank", "BadKind", "WORDS", "is_rank", "Office", "_law_source", "_law_draw", "_law_pick", "_law_same", "_law_some_ranks", "_law_some_wishes", "_law_some_come", "_law_some_event", "_law_some_events"] : List Str) ++ (["_law_is_name", "_law_are_wishes", "_law_is_kind", "_law_is_due", "_law_bent"] : List Str)
abbrev R : PySem.W.OpenRow := PySem.W.OpenLaw.row PySem.Challenge.rw_seatroads_k01_events_known
abbrev hk : PySem.W.Hook := He.hookX 4 fa fn [] [] ex
def ob (s : PySem.W.SharedT) : He.AlX := He.obsX 4 fa fn [] [] ex (HandSHeadRun.getT s)
theorem ob_eq (s : PySem.W.SharedT) : ob s = hk.obs s.abs := He.obsX_eq (HandSHeadRun.getT_eq s)
theorem run (w : World) : HandSHeadRun.RunEq R (PySem.W.view R.prog [39]) hk ob 4000 loose w := by
  intro os
  kernel_rfl
end HD

set_option Elab.async false
set_option linter.all false
set_option maxRecDepth 100000
set_option maxHeartbeats 0
namespace K01
open PySem PySem.Spec PyProof.Rows L2 DL
theorem factsTX {w : World} {K : PySem.W.Frag} {h : Heap} {mg : Str → Option Value} (X : K.In h) (G : h.Ns mainGlobals mg) (c : He.SaysX HD.fa HD.fn [] [] HD.ex w h K) : TX K mg := by
  have more := c.more
  simp only [HD.ex, Bool.and_eq_true] at more
  exact {
    n_TypeError := He.free_ok X G (c.t.d.fact 29 (f := .free "TypeError") rfl)
    n_ValueError := He.free_ok X G (c.t.d.fact 30 (f := .free "ValueError") rfl)
    n_all := He.free_ok X G (c.t.d.fact 31 (f := .free "all") rfl)
    n_bool := He.free_ok X G (c.t.d.fact 32 (f := .free "bool") rfl)
    n_dict := He.free_ok X G (c.t.d.fact 33 (f := .free "dict") rfl)
    n_enumerate := He.free_ok X G (c.t.d.fact 34 (f := .free "enumerate") rfl)
    n_int := He.free_ok X G (c.t.d.fact 35 (f := .free "int") rfl)
    n_isinstance := He.free_ok X G (c.t.d.fact 36 (f := .free "isinstance") rfl)
    n_len := He.free_ok X G (c.t.d.fact 37 (f := .free "len") rfl)
    n_list := He.free_ok X G (c.t.d.fact 38 (f := .free "list") rfl)
    n_min := He.free_ok X G (c.t.d.fact 39 (f := .free "min") rfl)
    n_range := He.free_ok X G (c.t.d.fact 40 (f := .free "range") rfl)
    n_set := He.free_ok X G (c.t.d.fact 41 (f := .free "set") rfl)
    n_sorted := He.free_ok X G (c.t.d.fact 42 (f := .free "sorted") rfl)
    n_str := He.free_ok X G (c.t.d.fact 43 (f := .free "str") rfl)
    n_super := He.free_ok X G (c.t.d.fact 44 (f := .free "super") rfl)
    n_tuple := He.free_ok X G (c.t.d.fact 45 (f := .free "tuple") rfl)
    n_zip := He.free_ok X G (c.t.d.fact 46 (f := .free "zip") rfl)
    g_is_list := He.glo_ok X G (c.t.d.fact 0 (f := .glo "is_list") rfl)
    g_is_name := He.glo_ok X G (c.t.d.fact 1 (f := .glo "is_name") rfl)
    g_is_whole := He.glo_ok X G (c.t.d.fact 2 (f := .glo "is_whole") rfl)
    g_is_time := He.glo_ok X G (c.t.d.fact 3 (f := .glo "is_time") rfl)
    g_is_key := He.glo_ok X G (c.t.d.fact 4 (f := .glo "is_key") rfl)
    g_are_unlike := He.glo_ok X G (c.t.d.fact 5 (f := .glo "are_unlike") rfl)
    g_are_wishes := He.glo_ok X G (c.t.d.fact 6 (f := .glo "are_wishes") rfl)
    g_is_coming := He.glo_ok X G (c.t.d.fact 7 (f := .glo "is_coming") rfl)
    g_is_event := He.glo_ok X G (c.t.d.fact 8 (f := .glo "is_event") rfl)
    g_is_rank := He.glo_ok X G (c.t.d.fact 12 (f := .glo "is_rank") rfl)
    g__law_source := He.glo_ok X G (c.t.d.fact 14 (f := .glo "_law_source") rfl)
    g__law_draw := He.glo_ok X G (c.t.d.fact 15 (f := .glo "_law_draw") rfl)
    g__law_pick := He.glo_ok X G (c.t.d.fact 16 (f := .glo "_law_pick") rfl)
    g__law_same := He.glo_ok X G (c.t.d.fact 17 (f := .glo "_law_same") rfl)
    g__law_some_ranks := He.glo_ok X G (c.t.d.fact 18 (f := .glo "_law_some_ranks") rfl)
    g__law_some_wishes := He.glo_ok X G (c.t.d.fact 19 (f := .glo "_law_some_wishes") rfl)
    g__law_some_come := He.glo_ok X G (c.t.d.fact 20 (f := .glo "_law_some_come") rfl)
    g__law_some_event := He.glo_ok X G (c.t.d.fact 21 (f := .glo "_law_some_event") rfl)
    g__law_some_events := He.glo_ok X G (c.t.d.fact 22 (f := .glo "_law_some_events") rfl)
    g__law_is_name := He.glo_ok X G (c.t.d.fact 23 (f := .glo "_law_is_name") rfl)
    g__law_are_wishes := He.glo_ok X G (c.t.d.fact 24 (f := .glo "_law_are_wishes") rfl)
    g__law_is_kind := He.glo_ok X G (c.t.d.fact 25 (f := .glo "_law_is_kind") rfl)
    g__law_is_due := He.glo_ok X G (c.t.d.fact 26 (f := .glo "_law_is_due") rfl)
    g__law_bent := He.glo_ok X G (c.t.d.fact 27 (f := .glo "_law_bent") rfl)
    g_law := He.glo_ok X G (c.t.d.fact 28 (f := .glo "law") rfl)
    g_OfficeError := He.glo_ok X G (c.t.d.fact 9 (f := .glo "OfficeError") rfl)
    g_BadRank := He.glo_ok X G (c.t.d.fact 10 (f := .glo "BadRank") rfl)
    g_BadKind := He.glo_ok X G (c.t.d.fact 11 (f := .glo "BadKind") rfl)
    g_Office := He.glo_ok X G (c.t.d.fact 13 (f := .glo "Office") rfl)
    c_SIGNS := He.str_ok X G (c.t.d.fact 47 (f := .str "SIGNS" "abcdefghijklmnopqrstuvwxyz0123456789") rfl)
    c_LONGEST := He.int_ok X G (c.t.d.fact 48 (f := .int "LONGEST" 8) rfl)
    c_GREATEST := He.int_ok X G (c.t.d.fact 49 (f := .int "GREATEST" 1000000) rfl)
    c_SHORT := He.glo_ok X G (c.t.d.fact 50 (f := .glo "SHORT") rfl)
    v_SHORT := fun H => He.tupB_ok more.1.1 H
    c_OF_PLACES := He.glo_ok X G (c.t.d.fact 51 (f := .glo "OF_PLACES") rfl)
    v_OF_PLACES := fun H => He.tupB_ok more.1.2 H
    c_WORDS := He.glo_ok X G (c.t.d.fact 52 (f := .glo "WORDS") rfl)
    v_WORDS := fun H => He.tupB_ok more.2 H
    F_is_list := c.t.d.def_ 0 (d := HD.d_is_list) rfl
    F_is_name := c.t.d.def_ 1 (d := HD.d_is_name) rfl
    F_is_whole := c.t.d.def_ 2 (d := HD.d_is_whole) rfl
    F_is_time := c.t.d.def_ 3 (d := HD.d_is_time) rfl
    F_is_key := c.t.d.def_ 4 (d := HD.d_is_key) rfl
    F_are_unlike := c.t.d.def_ 5 (d := HD.d_are_unlike) rfl
    F_are_wishes := c.t.d.def_ 6 (d := HD.d_are_wishes) rfl
    F_is_coming := c.t.d.def_ 7 (d := HD.d_is_coming) rfl
    F_is_event := c.t.d.def_ 8 (d := HD.d_is_event) rfl
    F_is_rank := c.t.d.def_ 9 (d := HD.d_is_rank) rfl
    F__law_source := c.t.d.def_ 17 (d := HD.d__law_source) rfl
    F__law_draw := c.t.d.def_ 18 (d := HD.d__law_draw) rfl
    F__law_pick := c.t.d.def_ 19 (d := HD.d__law_pick) rfl
    F__law_same := c.t.d.def_ 20 (d := HD.d__law_same) rfl
    F__law_some_ranks := c.t.d.def_ 21 (d := HD.d__law_some_ranks) rfl
    F__law_some_wishes := c.t.d.def_ 22 (d := HD.d__law_some_wishes) rfl
    F__law_some_come := c.t.d.def_ 23 (d := HD.d__law_some_come) rfl
    F__law_some_event := c.t.d.def_ 24 (d := HD.d__law_some_event) rfl
    F__law_some_events := c.t.d.def_ 25 (d := HD.d__law_some_events) rfl
    F__law_is_name := c.t.d.def_ 26 (d := HD.d__law_is_name) rfl
    F__law_are_wishes := c.t.d.def_ 27 (d := HD.d__law_are_wishes) rfl
    F__law_is_kind := c.t.d.def_ 28 (d := HD.d__law_is_kind) rfl
    F__law_is_due := c.t.d.def_ 29 (d := HD.d__law_is_due) rfl
    F__law_bent := c.t.d.def_ 30 (d := HD.d__law_bent) rfl
    F_law := c.t.d.def_ 31 (d := HD.d_law) rfl }
theorem factsOF {w : World} {K : PySem.W.Frag} {h : Heap} (c : He.SaysX HD.fa HD.fn [] [] HD.ex w h K) : OF K := ⟨He.cls_ok (c.t.d.fact 53 (f := .cls "Office") rfl), He.noat_ok (c.t.d.fact 57 (f := .noat "Office" "rows") rfl)⟩
theorem factsOI {w : World} {K : PySem.W.Frag} {h : Heap} (c : He.SaysX HD.fa HD.fn [] [] HD.ex w h K) : OI K := ⟨He.mkr_ok (c.t.d.fact 54 (f := .mkr "Office") rfl), c.t.d.def_ 10 (d := HD.d_Office___init__) rfl⟩
end K01
open PySem PySem.W PySem.Calls PyProof.Rows
theorem PySem.Challenge.cw_seatroads_k01_events_known_holds : PySem.Challenge.rw_seatroads_k01_events_known.Holds := by
  w_on; o_law
  refine HandSHeadRun.head_any (r := OpenLaw.row PySem.Challenge.rw_seatroads_k01_events_known) (q := view (OpenLaw.row PySem.Challenge.rw_seatroads_k01_events_known).prog [39]) (H := HD.hk) (ob := HD.ob) (M := 4000) (loose := HD.loose) (d := HandSHeadRun.topDef (OpenLaw.row PySem.Challenge.rw_seatroads_k01_events_known).prog 39) (kwd := []) HD.ob_eq
    (by kernel_rfl) (fun s => by kernel_rfl) HD.run (by kernel_rfl) (by kernel_rfl) (by kernel_rfl) (by rfl) (by first | assumption | decide +kernel) (by decide +kernel) ⟨rfl, rfl, rfl, rfl, rfl, by decide +kernel⟩ ?hw ?hc
  case hw => w_witness2
  case hc =>
    refine L2.walk_ofE (l := PySem.Challenge.rw_seatroads_k01_events_known) (n := 63) (k := 6) (x := "_law_script") (CX := L2.CX0) rfl (by decide) (by kernel_rfl) ⟨rfl, by decide, by decide⟩ ?F (fun _ _ _ _ z => z)
    intro w mg fa h Y G hmg0
    obtain ⟨K, KX, c⟩ := Y
    have hmg : mg ("law" : PySem.Str) = some (.ref fa) := by
      have e : (HandSHeadRun.topDef (OpenLaw.row PySem.Challenge.rw_seatroads_k01_events_known).prog 39).name = ("law" : PySem.Str) := by kernel_rfl
      rw [← e]
      exact hmg0
    have T := K01.factsTX KX G c
    have O := K01.factsOF c
    have I := K01.factsOI c
    obtain ⟨fd, F⟩ := T.F_law
    have e := hmg.symm.trans T.g_law
    cases e
    have b := L2.FunD.bindsA (ps := ["_law_script"]) F fun _ _ _ _ _ _ us hl => match us, hl with | [_], _ => rfl
    exact ⟨K, fd, DL.spP K K01.TLaw, KX, fun s v => b s [v] rfl, fun H a ns hl _ hS => ⟨fun _ => none, H, [.scr ns], fun d => d = .bl true, ⟨fun _ _ z => (nomatch z), DL.Ex.refl H, fun _ _ z => (nomatch z)⟩, .cons (.scr hS) .nil, ⟨ns, rfl, rfl⟩, fun v d G' H' e W r q => by subst q; exact DL.rep_bl r⟩, fun base _ _ => K01.ok_law F T O I⟩

