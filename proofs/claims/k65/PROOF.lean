import PyProof.Rows.All
import Wide.All
import OpenK.AllK
import Wide.FinOn
import KE.KStateDown
import HandS.ForMost
import HandS.More
import HandS.WordsExc
import HandS.Defaults
import HandS.Evl
import HandS.Flow
import HandS.IsInst
import HandS.Strs
import HandS.HeadHook1
import HandS.Lambda
import HandS.ExcInit
import HandS.TupAny
import HandS.Deep
import KE.GoesEnum
import HandS.NoneIn
import HandS.Style
import HandS.Sort
import HandS.DictComp
import KE.KExcSuper
import HandS.HeadHook4
import HandS.ExcField
import HandS.SortRule
import HandS.Conv
import KE.KDictKeyed
import HandS.Zip
import HandS.ExcValue
import HandS.ExcIs
import HandS.ExcBuiltin
import KE.KExcIs
import HandS.SlotsOwn
import HandS.NamedTupGet
import KE.KDictItemsList
import HandS.ListItems
import HandS.DictTup
import HandS.SetFor
import HandS.WrittenGet
import HandS.Head0
import HandS.Head1
import HandS.Head2
import HandS.HeadEnd
import HandS.HeadWalk
import HandS.HeadHook2
import HandS.HeadHook3
import PySem.Challenge.RW_seatroads_k65_whole_tables_judged
import HandS.TupSets
import KE.KEqDict
import HandS.Finally
import HandS.Star
import HandS.TupLen
import KE.SortKeyHeap
import HandS.SortKw
import PyProof.DictUpdate
import KE.KEqNest
import KE.SortData
namespace DL
end DL
namespace L2
end L2
namespace LamY
end LamY
namespace LowX
end LowX
namespace PySem
end PySem
namespace SG
end SG
namespace SrtK
end SrtK
namespace SrtL
end SrtL
namespace SrtM
end SrtM
namespace SrtN
end SrtN
namespace SrtV
end SrtV
namespace ZM
end ZM
set_option Elab.async false
set_option linter.all false
set_option maxRecDepth 100000
namespace DL
open PySem L2
inductive D where
 | non | bl (b : Bool) | int (i : Int) | str (s : Str) | lst (xs : List D) | tup (xs : List D)
 | dk (kvs : List (Key × D)) | dt (kvs : List (List Key × D)) | ins (C : Str) (fs : List (Str × D)) | scr (ns : List Int) | kt (xs : List D) | raw (v : V) | tag (v : V) (d : D) | exc (C : Str) (fs : List (Str × D))
mutual
inductive Rep (K : PySem.W.Frag) (H : Hp) : V -> D -> Prop
 | non : Rep K H .non .non
 | bl (b : Bool) : Rep K H (.bl b) (.bl b)
 | int (i : Int) : Rep K H (.int i) (.int i)
 | str (s : Str) : Rep K H (.str s) (.str s)
 | lst {a : Addr} {vs : List V} {ds : List D} : H a = some (.lst vs) -> Reps K H vs ds -> Rep K H (.ref a) (.lst ds)
 | tup {a : Addr} {vs : List V} {ds : List D} : H a = some (.tup vs) -> Reps K H vs ds -> Rep K H (.ref a) (.tup ds)
 | kt {a : Addr} {vs : List V} {ds : List D} : SqT K H a vs -> Reps K H vs ds -> Rep K H (.ref a) (.kt ds)
 | dk {a : Addr} {kvs : List (Key × V)} {ps : List (Key × D)} : Rd H a (.dK kvs) -> kvs.map (·.1) = ps.map (·.1) -> Reps K H (kvs.map (·.2)) (ps.map (·.2)) -> Rep K H (.ref a) (.dk ps)
 | dt {a : Addr} {kvs : List (List Key × V)} {ps : List (List Key × D)} : Rd H a (.dT kvs) -> kvs.map (·.1) = ps.map (·.1) -> Reps K H (kvs.map (·.2)) (ps.map (·.2)) -> Rep K H (.ref a) (.dt ps)
 | ins {a dx : Addr} {C : Str} {fs : List (Str × V)} {ps : List (Str × D)} : H a = some (.ins (He.ga K C) dx fs) -> fs.map (·.1) = ps.map (·.1) -> Reps K H (fs.map (·.2)) (ps.map (·.2)) -> Rep K H (.ref a) (.ins C ps)
 | scr {a : Addr} {ns : List Int} : SqL K H a (ns.map V.int) -> Rep K H (.ref a) (.scr ns)
 | raw {v : V} : Rep K H v (.raw v)
 | tag {v : V} {d : D} : Rep K H v d -> Rep K H v (.tag v d)
 | exc {a dx : Addr} {C : Str} {fs : List (Str × V)} {ps : List (Str × D)} : H a = some (exo a (He.ga K C) (some dx)) -> H dx = some (.xd fs) -> fs.map (·.1) = ps.map (·.1) -> Reps K H (fs.map (·.2)) (ps.map (·.2)) -> Rep K H (.ref a) (.exc C ps)
 | ex0 {a : Addr} {C : Str} : H a = some (exo a (He.ga K C) none) -> Rep K H (.ref a) (.exc C [])
inductive Reps (K : PySem.W.Frag) (H : Hp) : List V -> List D -> Prop
 | nil : Reps K H [] []
 | cons {v : V} {vs : List V} {d : D} {ds : List D} : Rep K H v d -> Reps K H vs ds -> Reps K H (v :: vs) (d :: ds)
end
def Ex (H H' : Hp) : Prop := ∀ a o,H a = some o -> H' a = some o
theorem Ex.refl (H : Hp) : Ex H H := fun _ _ h=>h
theorem Ex.trans {H H1 H2 : Hp} (a : Ex H H1) (b : Ex H1 H2) : Ex H H2 := fun x o h=>b x o (a x o h)
theorem Ex.new {H : Hp} {p : Addr} {o : HO} (h : H p = none) : Ex H (upd H p o) := fun a u e=>by
 rw [upd_ne (ne_of_none e h)]
 exact e
theorem Ex.upd {G H : Hp} {p : Addr} {o : HO} (e : Ex G H) : Ex (upd G p o) (upd H p o) := fun a u q=>by
 by_cases h : a = p
 ·subst h; rw [upd_same] at q ⊢; exact q
 ·rw [upd_ne h] at q ⊢; exact e a u q
theorem Ex.none {G H : Hp} (e : Ex G H) {a : Addr} (h : H a = Option.none) : G a = Option.none := by
 cases q : G a with
 | none=>rfl
 | some o=>rw [e a o q] at h; cases h
def RdX (H H' : Hp) : Prop := (∀ a u,(match u with | .lst _=>True | .tup _=>True | .dK _=>True | .dT _=>True | _=>False) -> Rd H a u -> Rd H' a u) /\ (∀ a C dx fs,H a = some (.ins C dx fs) -> H' a = some (.ins C dx fs)) /\ (∀ a xs,H a = some (.lst xs) -> H' a = some (.lst xs)) /\ (∀ a xs,H a = some (.tup xs) -> H' a = some (.tup xs)) /\ (∀ a φ,H a = some (.ext φ) -> H' a = some (.ext φ)) /\ ∀ a fs,H a = some (.xd fs) -> H' a = some (.xd fs)
theorem Ex.rdx {H H' : Hp} (e : Ex H H') : RdX H H' := by
 refine ⟨fun a u _ h=>?_,fun a C dx fs h=>e _ _ h,fun a xs h=>e _ _ h,fun a xs h=>e _ _ h,fun a φ h=>e _ _ h,fun a φ h=>e _ _ h⟩
 rcases h with h | ⟨o,h⟩
 ·exact .inl (e a _ h)
 ·exact .inr ⟨o,e a _ h⟩
theorem RdX.sqL {K : PySem.W.Frag} {H H' : Hp} {a : Addr} {xs : List V} (e : RdX H H') (h : SqL K H a xs) : SqL K H' a xs := by
 rcases h with h | h
 ·exact .inl (e.1 a _ trivial h)
 ·exact .inr h
theorem RdX.sqT {K : PySem.W.Frag} {H H' : Hp} {a : Addr} {xs : List V} (e : RdX H H') (h : SqT K H a xs) : SqT K H' a xs := by
 rcases h with h | h
 ·exact .inl (e.1 a _ trivial h)
 ·exact .inr h
mutual
theorem Rep.rdx {K : PySem.W.Frag} {H H' : Hp} (e : RdX H H') : ∀ {v : V} {d : D},Rep K H v d -> Rep K H' v d
 | _,_,.non=>.non
 | _,_,.bl b=>.bl b
 | _,_,.int i=>.int i
 | _,_,.str s=>.str s
 | _,_,.lst h r=>.lst (e.2.2.1 _ _ h) (Reps.rdx e r)
 | _,_,.tup h r=>.tup (e.2.2.2.1 _ _ h) (Reps.rdx e r)
 | _,_,.kt h r=>.kt (e.sqT h) (Reps.rdx e r)
 | _,_,.dk h k r=>.dk (e.1 _ _ trivial h) k (Reps.rdx e r)
 | _,_,.dt h k r=>.dt (e.1 _ _ trivial h) k (Reps.rdx e r)
 | _,_,.ins h k r=>.ins (e.2.1 _ _ _ _ h) k (Reps.rdx e r)
 | _,_,.scr h=>.scr (e.sqL h)
 | _,_,.raw=>.raw
 | _,_,.tag h=>.tag (Rep.rdx e h)
 | _,_,.exc h1 h2 h3 r=>.exc (e.2.2.2.2.1 _ _ h1) (e.2.2.2.2.2 _ _ h2) h3 (Reps.rdx e r)
 | _,_,.ex0 h1=>.ex0 (e.2.2.2.2.1 _ _ h1)
theorem Reps.rdx {K : PySem.W.Frag} {H H' : Hp} (e : RdX H H') : ∀ {vs : List V} {ds : List D},Reps K H vs ds -> Reps K H' vs ds
 | _,_,.nil=>.nil
 | _,_,.cons h r=>.cons (Rep.rdx e h) (Reps.rdx e r)
end
theorem Rep.mono {K : PySem.W.Frag} {H H' : Hp} {v : V} {d : D} (h : Rep K H v d) (e : Ex H H') : Rep K H' v d := h.rdx e.rdx
theorem Reps.mono {K : PySem.W.Frag} {H H' : Hp} {vs : List V} {ds : List D} (h : Reps K H vs ds) (e : Ex H H') : Reps K H' vs ds := h.rdx e.rdx
section
variable {K : PySem.W.Frag} {H : Hp}
theorem Reps.length : ∀ {vs : List V} {ds : List D},Reps K H vs ds -> vs.length = ds.length
 | _,_,.nil=>rfl
 | _,_,.cons _ r=>by simp [Reps.length r]
theorem Reps.get : ∀ {vs : List V} {ds : List D} {i : Nat} {d : D},Reps K H vs ds -> ds[i]? = some d -> ∃ v,vs[i]? = some v /\ Rep K H v d
 | _,_,_,_,.nil,e=>by simp at e
 | _,_,0,_,.cons h _,e=>by simp at e; subst e; exact ⟨_,rfl,h⟩
 | _,_,i + 1,_,.cons _ r,e=>by
  obtain ⟨v,h1,h2⟩ := Reps.get (i := i) r (by simpa using e)
  exact ⟨v,by simpa using h1,h2⟩
theorem Reps.getV : ∀ {vs : List V} {ds : List D} {i : Nat} {v : V},Reps K H vs ds -> vs[i]? = some v -> ∃ d,ds[i]? = some d /\ Rep K H v d
 | _,_,_,_,.nil,e=>by simp at e
 | _,_,0,_,.cons h _,e=>by simp at e; subst e; exact ⟨_,rfl,h⟩
 | _,_,i + 1,_,.cons _ r,e=>by
  obtain ⟨v,h1,h2⟩ := Reps.getV (i := i) r (by simpa using e)
  exact ⟨v,by simpa using h1,h2⟩
theorem Reps.append : ∀ {vs ws : List V} {ds es : List D},Reps K H vs ds -> Reps K H ws es -> Reps K H (vs ++ ws) (ds ++ es)
 | _,_,_,_,.nil,s=>s
 | _,_,_,_,.cons h r,s=>.cons h (Reps.append r s)
theorem Reps.take : ∀ {vs : List V} {ds : List D} (n : Nat),Reps K H vs ds -> Reps K H (vs.take n) (ds.take n)
 | _,_,0,_=>.nil
 | _,_,_ + 1,.nil=>.nil
 | _,_,n + 1,.cons h r=>.cons h (Reps.take n r)
theorem Reps.drop : ∀ {vs : List V} {ds : List D} (n : Nat),Reps K H vs ds -> Reps K H (vs.drop n) (ds.drop n)
 | _,_,0,r=>r
 | _,_,_ + 1,.nil=>.nil
 | _,_,n + 1,.cons _ r=>Reps.drop n r
theorem Reps.set {v : V} {d : D} (h : Rep K H v d) : ∀ {vs : List V} {ds : List D} (i : Nat),Reps K H vs ds -> Reps K H (vs.set i v) (ds.set i d)
 | _,_,_,.nil=>.nil
 | _,_,0,.cons _ r=>.cons h r
 | _,_,i + 1,.cons q r=>.cons q (Reps.set h i r)
theorem Reps.eraseIdx : ∀ {vs : List V} {ds : List D} (i : Nat),Reps K H vs ds -> Reps K H (vs.eraseIdx i) (ds.eraseIdx i)
 | _,_,_,.nil=>.nil
 | _,_,0,.cons _ r=>r
 | _,_,i + 1,.cons q r=>.cons q (Reps.eraseIdx i r)
theorem Reps.nil_inv {vs : List V} (h : Reps K H vs []) : vs = [] := by cases h; rfl
theorem Reps.cons_inv {vs : List V} {d : D} {ds : List D} (h : Reps K H vs (d :: ds)) : ∃ v ws,vs = v :: ws /\ Rep K H v d /\ Reps K H ws ds := by
 cases h with | cons a b=>exact ⟨_,_,rfl,a,b⟩
theorem Reps.one {vs : List V} {d : D} (h : Reps K H vs [d]) : ∃ v,vs = [v] /\ Rep K H v d := by
 obtain ⟨v,ws,rfl,a,b⟩ := h.cons_inv
 rw [b.nil_inv]
 exact ⟨v,rfl,a⟩
theorem Reps.two {vs : List V} {d e : D} (h : Reps K H vs [d,e]) : ∃ v w,vs = [v,w] /\ Rep K H v d /\ Rep K H w e := by
 obtain ⟨v,ws,rfl,a,b⟩ := h.cons_inv
 obtain ⟨w,rfl,c⟩ := b.one
 exact ⟨v,w,rfl,a,c⟩
end
def NT (o : HO) : Prop := (∀ vs,o ≠ .tup vs) /\ ∀ ps,o ≠ .tbl ps
theorem nt_mut {u : HO} (h : Mut (some u)) : NT u := ⟨fun vs e=>by subst e; exact h,fun vs e=>by subst e; exact h⟩
class TabL where
 tabs : List (Addr × Str)
 nd : (tabs.map (·.1)).Nodup
variable [TabL]
def Tbs (F G H : Hp) : Prop := ∀ t ∈ TabL.tabs,G t.1 = none /\ F t.1 = none /\ ∃ ps,H t.1 = some (.tbl ps) /\ TriplesOk ps.toList /\ ∀ (pos : Pos) (cv : Value),codeAmong pos ps.toList = some cv -> ∃ c,cv = .ref c /\ G c = some (LamX.CodeO c t.2)
theorem Tbs.step {F G H F' G' H' : Hp} (h : Tbs F G H) (e : ∀ c q,G c = some (LamX.CodeO c q) -> G' c = some (LamX.CodeO c q)) (k : ∀ t ∈ TabL.tabs,H' t.1 = H t.1 /\ G' t.1 = none /\ F' t.1 = none) : Tbs F' G' H' := fun t ht=>by
 obtain ⟨h1,h2,ps,h3,h4,h5⟩ := h t ht
 obtain ⟨k1,k2,k3⟩ := k t ht
 exact ⟨k2,k3,ps,k1.trans h3,h4,fun pos cv hc=>by
  obtain ⟨c,e1,e2⟩ := h5 pos cv hc
  exact ⟨c,e1,e c _ e2⟩⟩
theorem Tbs.ne {F G H : Hp} (h : Tbs F G H) {p : Addr} {o : HO} (hp : H p = some o) (nt : NT o) : ∀ t ∈ TabL.tabs,t.1 ≠ p := fun t ht z=>by
 obtain ⟨_,_,ps,h3,_⟩ := h t ht
 rw [z,hp] at h3
 exact nt.2 ps (Option.some.inj h3)
theorem Tbs.neN {F G H : Hp} (h : Tbs F G H) {p : Addr} (hp : H p = none) : ∀ t ∈ TabL.tabs,t.1 ≠ p := fun t ht z=>by
 obtain ⟨_,_,ps,h3,_⟩ := h t ht
 rw [z,hp] at h3; cases h3
structure Wd (F G H : Hp) : Prop where
 f : Ex F H
 g : Ex G H
 fg : ∀ a o,F a = some o -> G a = none
 ft : ∀ a vs,F a ≠ some (.tup vs)
 tb : Tbs F G H
inductive Sl where
 | un | sh (d : D) | own (a : Addr) (d : D) | drw (a : Addr) | two (k m : Addr) (xs ys : List Str) | any (S : List Addr) (φ : Option V -> Hp -> Hp -> Prop)
abbrev Env := List Sl
def OwnR (K : PySem.W.Frag) (G : Hp) (o : Option HO) : D -> Prop
 | .lst ds=>∃ vs,o = some (.lst vs) /\ Reps K G vs ds
 | .dk ps=>∃ kvs,o = some (.dK kvs) /\ kvs.map (·.1) = ps.map (·.1) /\ Reps K G (kvs.map (·.2)) (ps.map (·.2))
 | .dt ps=>∃ kvs,o = some (.dT kvs) /\ kvs.map (·.1) = ps.map (·.1) /\ Reps K G (kvs.map (·.2)) (ps.map (·.2))
 | .ins C ps=>∃ dx fs,o = some (.ins (He.ga K C) dx fs) /\ fs.map (·.1) = ps.map (·.1) /\ Reps K G (fs.map (·.2)) (ps.map (·.2))
 | _=>False
theorem OwnR.mono {K : PySem.W.Frag} {G G' : Hp} {o : Option HO} {d : D} (h : OwnR K G o d) (x : Ex G G') : OwnR K G' o d := by
 cases d with
 | lst _=>obtain ⟨vs,e,r⟩ := h; exact ⟨vs,e,r.mono x⟩
 | dk _=>obtain ⟨vs,e,k,r⟩ := h; exact ⟨vs,e,k,r.mono x⟩
 | dt _=>obtain ⟨vs,e,k,r⟩ := h; exact ⟨vs,e,k,r.mono x⟩
 | ins _ _=>obtain ⟨dx,vs,e,k,r⟩ := h; exact ⟨dx,vs,e,k,r.mono x⟩
 | _=>exact h.elim
theorem OwnR.some {K : PySem.W.Frag} {G : Hp} {o : Option HO} {d : D} (h : OwnR K G o d) : ∃ u,o = some u /\ Mut (some u) := by
 cases d with
 | lst _=>obtain ⟨vs,e,r⟩ := h; exact ⟨_,e,trivial⟩
 | dk _=>obtain ⟨vs,e,k,r⟩ := h; exact ⟨_,e,trivial⟩
 | dt _=>obtain ⟨vs,e,k,r⟩ := h; exact ⟨_,e,trivial⟩
 | ins _ _=>obtain ⟨dx,vs,e,k,r⟩ := h; exact ⟨_,e,trivial⟩
 | _=>exact h.elim
def DrwR (o : Option HO) : Prop := ∃ x y z : Int,o = Option.some (.lst [.int x,.int y,.int z])
def Loc (S : List Addr) (φ : Option V -> Hp -> Hp -> Prop) : Prop := ∀ s G G' H H',RdX G G' -> (∀ a ∈ S,H' a = H a) -> φ s G H -> φ s G' H'
def SlotOk (K : PySem.W.Frag) (F G H : Hp) (s : Option V) : Sl -> Prop
 | .un=>True
 | .sh d=>∃ v,s = some v /\ Rep K G v d
 | .own a d=>s = some (.ref a) /\ G a = none /\ F a = none /\ OwnR K G (H a) d
 | .drw a=>s = some (.ref a) /\ G a = none /\ F a = none /\ DrwR (H a)
 | .two k m xs ys=>(∃ t,s = some (.ref t) /\ G t = some (.tup [.ref k,.ref m])) /\ G k = none /\ F k = none /\ G m = none /\ F m = none /\ H k = some (.lst (xs.map V.str)) /\ H m = some (.lst (ys.map V.str))
 | .any S φ=>φ s G H /\ Loc S φ /\ ∀ a ∈ S,G a = none /\ F a = none /\ ∃ u,H a = some u /\ NT u
def Sl.adr : Sl -> List Addr
 | .own a _=>[a]
 | .drw a=>[a]
 | .two k m _ _=>[k,m]
 | .any S _=>S
 | _=>[]
def ownA (ρ : Env) : List Addr := ρ.flatMap Sl.adr
def Slots (K : PySem.W.Frag) (F G H : Hp) : L2.St -> Env -> Prop
 | [],[]=>True
 | s :: σ,r :: ρ=>SlotOk K F G H s r /\ Slots K F G H σ ρ
 | _,_=>False
structure RE (K : PySem.W.Frag) (F G H : Hp) (σ : L2.St) (ρ : Env) : Prop where
 wd : Wd F G H
 sl : Slots K F G H σ ρ
 nd : (ownA ρ).Nodup
section
variable {K : PySem.W.Frag} {F F' G H G' H' : Hp} {σ : L2.St} {ρ : Env} {s : Option V} {r : Sl}
theorem SlotOk.own (h : SlotOk K F G H s r) {a : Addr} (m : a ∈ r.adr) : G a = none /\ F a = none /\ ∃ u,H a = some u /\ NT u := by
 cases r with
 | un=>cases m
 | sh d=>cases m
 | own b d =>
  obtain ⟨_,h1,h2,h3⟩ := h
  rw [List.mem_singleton.mp m]
  obtain ⟨u,h4,h5⟩ := h3.some
  exact ⟨h1,h2,u,h4,nt_mut h5⟩
 | drw b =>
  obtain ⟨_,h1,h2,x,y,z,h3⟩ := h
  rw [List.mem_singleton.mp m]
  exact ⟨h1,h2,_,h3,⟨fun _ z=>(nomatch z),fun _ z=>(nomatch z)⟩⟩
 | two k l xs ys =>
  obtain ⟨_,h1,h2,h3,h4,h5,h6⟩ := h
  rcases List.mem_cons.mp m with e | m
  ·rw [e]; exact ⟨h1,h2,_,h5,⟨fun _ z=>(nomatch z),fun _ z=>(nomatch z)⟩⟩
  ·rw [List.mem_singleton.mp m]; exact ⟨h3,h4,_,h6,⟨fun _ z=>(nomatch z),fun _ z=>(nomatch z)⟩⟩
 | any S φ=>exact h.2.2 a m
theorem SlotOk.step (h : SlotOk K F G H s r) (e : Ex G G') (k : ∀ a ∈ r.adr,H' a = H a /\ G' a = none) : SlotOk K F G' H' s r := by
 cases r with
 | un=>trivial
 | sh d=>obtain ⟨v,h1,h2⟩ := h; exact ⟨v,h1,h2.mono e⟩
 | own b d =>
  obtain ⟨h0,h1,h2,h3⟩ := h
  have kb := k b (List.mem_singleton.mpr rfl)
  exact ⟨h0,kb.2,h2,by rw [kb.1]; exact h3.mono e⟩
 | drw b =>
  obtain ⟨h0,h1,h2,h3⟩ := h
  have kb := k b (List.mem_singleton.mpr rfl)
  exact ⟨h0,kb.2,h2,by rw [kb.1]; exact h3⟩
 | two p q xs ys =>
  obtain ⟨⟨t,h0,ht⟩,h1,h2,h3,h4,h5,h6⟩ := h
  have kp := k p List.mem_cons_self
  have kq := k q (List.mem_cons_of_mem _ (List.mem_singleton.mpr rfl))
  exact ⟨⟨t,h0,e _ _ ht⟩,kp.2,h2,kq.2,h4,by rw [kp.1]; exact h5,by rw [kq.1]; exact h6⟩
 | any S φ=>exact ⟨h.2.1 _ _ _ _ _ e.rdx (fun a m=>(k a m).1) h.1,h.2.1,fun a m=>⟨(k a m).2,(h.2.2 a m).2.1,by rw [(k a m).1]; exact (h.2.2 a m).2.2⟩⟩
theorem SlotOk.frm (h : SlotOk K F G H s r) (k : ∀ a ∈ r.adr,F' a = none) : SlotOk K F' G H s r := by
 cases r with
 | un=>trivial
 | sh d=>exact h
 | own b d=>obtain ⟨h0,h1,h2,h3⟩ := h; exact ⟨h0,h1,k b (List.mem_singleton.mpr rfl),h3⟩
 | drw b=>obtain ⟨h0,h1,h2,h3⟩ := h; exact ⟨h0,h1,k b (List.mem_singleton.mpr rfl),h3⟩
 | two p q xs ys =>
  obtain ⟨h0,h1,h2,h3,h4,h5,h6⟩ := h
  exact ⟨h0,h1,k p List.mem_cons_self,h3,k q (List.mem_cons_of_mem _ (List.mem_singleton.mpr rfl)),h5,h6⟩
 | any S φ=>exact ⟨h.1,h.2.1,fun a m=>⟨(h.2.2 a m).1,k a m,(h.2.2 a m).2.2⟩⟩
theorem ownA_cons : ownA (r :: ρ) = r.adr ++ ownA ρ := List.flatMap_cons
theorem Slots.length : ∀ {σ : L2.St} {ρ : Env},Slots K F G H σ ρ -> σ.length = ρ.length
 | [],[],_=>rfl
 | [],_ :: _,h=>h.elim
 | _ :: _,[],h=>h.elim
 | _ :: _,_ :: _,h=>by simp [Slots.length h.2]
theorem Slots.get : ∀ {σ : L2.St} {ρ : Env} {i : Nat} {r : Sl},Slots K F G H σ ρ -> ρ[i]? = some r -> ∃ s,σ[i]? = some s /\ SlotOk K F G H s r
 | [],[],_,_,_,e=>by simp at e
 | [],_ :: _,_,_,h,_=>h.elim
 | _ :: _,[],_,_,h,_=>h.elim
 | s :: σ,r :: ρ,0,_,h,e=>by simp at e; subst e; exact ⟨s,rfl,h.1⟩
 | s :: σ,r :: ρ,i + 1,_,h,e=>by
  obtain ⟨s',h1,h2⟩ := Slots.get (i := i) h.2 (by simpa using e)
  exact ⟨s',by simpa using h1,h2⟩
theorem Slots.map {F' G' H' : Hp} : ∀ {σ : L2.St} {ρ : Env},Slots K F G H σ ρ -> (∀ (i : Nat) s r,σ[i]? = some s -> ρ[i]? = some r -> SlotOk K F G H s r -> SlotOk K F' G' H' s r) -> Slots K F' G' H' σ ρ
 | [],[],_,_=>trivial
 | [],_ :: _,h,_=>h.elim
 | _ :: _,[],h,_=>h.elim
 | s :: σ,r :: ρ,h,k=>⟨k 0 s r rfl rfl h.1,Slots.map h.2 fun i s' r' hs hr=>k (i + 1) s' r' (by simpa using hs) (by simpa using hr)⟩
theorem adr_mem {i : Nat} {a : Addr} (h : ρ[i]? = some r) (m : a ∈ r.adr) : a ∈ ownA ρ := List.mem_flatMap.mpr ⟨r,List.mem_of_getElem? h,m⟩
theorem Slots.own : ∀ {σ : L2.St} {ρ : Env} {a : Addr},Slots K F G H σ ρ -> a ∈ ownA ρ -> G a = none /\ F a = none /\ ∃ u,H a = some u /\ NT u
 | [],[],_,_,m=>by cases m
 | [],_ :: _,_,h,_=>h.elim
 | _ :: _,[],_,h,_=>h.elim
 | s :: σ,r :: ρ,a,h,m=>by
  rw [ownA_cons] at m
  rcases List.mem_append.mp m with m | m
  ·exact h.1.own m
  ·exact Slots.own h.2 m
theorem Slots.step (e : Ex G G') (k : ∀ a,a ∈ ownA ρ -> H' a = H a /\ G' a = none) (h : Slots K F G H σ ρ) : Slots K F G' H' σ ρ :=
 h.map fun i s r _ hr q=>q.step e fun a m=>k a (adr_mem hr m)
theorem Slots.set {s : Option V} {r : Sl} (hs : SlotOk K F G H s r) : ∀ {σ : L2.St} {ρ : Env} (i : Nat),Slots K F G H σ ρ -> Slots K F G H (σ.set i s) (ρ.set i r)
 | [],[],_,_=>trivial
 | [],_ :: _,_,h=>h.elim
 | _ :: _,[],_,h=>h.elim
 | _ :: _,_ :: _,0,h=>⟨hs,h.2⟩
 | _ :: _,_ :: _,i + 1,h=>⟨h.1,Slots.set hs i h.2⟩
theorem ownA_set0 (hr : r.adr = []) : ∀ {ρ : Env} (i : Nat),(ownA (ρ.set i r)).Sublist (ownA ρ)
 | [],_=>List.Sublist.refl _
 | r0 :: ρ,0=>by
  show (ownA (r :: ρ)).Sublist _
  rw [ownA_cons,ownA_cons,hr]
  exact List.sublist_append_right _ _
 | r0 :: ρ,i + 1=>by
  show (ownA (r0 :: ρ.set i r)).Sublist _
  rw [ownA_cons,ownA_cons]
  exact (ownA_set0 hr i).append_left _
theorem ownA_setr {r r' : Sl} (ha : r'.adr.Sublist r.adr) : ∀ {ρ : Env} {i : Nat},ρ[i]? = some r -> (ownA (ρ.set i r')).Sublist (ownA ρ)
 | [],_,e=>by simp at e
 | r0 :: ρ,0,e=>by
  simp at e; subst e
  show (ownA (r' :: ρ)).Sublist _
  rw [ownA_cons,ownA_cons]
  exact ha.append_right _
 | r0 :: ρ,i + 1,e=>by
  show (ownA (r0 :: ρ.set i r')).Sublist _
  rw [ownA_cons,ownA_cons]
  exact (ownA_setr ha (by simpa using e)).append_left _
theorem RE.setSh {v : V} {d : D} (R : RE K F G H σ ρ) (hv : Rep K G v d) (i : Nat) : RE K F G H (σ.set i (some v)) (ρ.set i (.sh d)) :=
 ⟨R.wd,R.sl.set (r := .sh d) ⟨v,rfl,hv⟩ i,List.Nodup.sublist (ownA_set0 rfl i) R.nd⟩
theorem RE.setUn {s : Option V} (R : RE K F G H σ ρ) (i : Nat) : RE K F G H (σ.set i s) (ρ.set i .un) :=
 ⟨R.wd,R.sl.set (r := .un) trivial i,List.Nodup.sublist (ownA_set0 rfl i) R.nd⟩
theorem RE.new {p : Addr} {o : HO} (R : RE K F G H σ ρ) (h : H p = none) : RE K F (upd G p o) (upd H p o) σ ρ := by
 refine ⟨⟨fun a u e=>?_,R.wd.g.upd,fun a u e=>?_,R.wd.ft,R.wd.tb.step (fun c q z=>Ex.new (R.wd.g.none h) _ _ z) fun t ht=>?_⟩,R.sl.step (Ex.new (R.wd.g.none h)) (fun a m=>?_),R.nd⟩
 ·exact (Ex.new h) a u (R.wd.f a u e)
 ·rw [upd_ne (ne_of_none (R.wd.f a u e) h)]; exact R.wd.fg a u e
 ·have ne := R.wd.tb.neN h t ht
  obtain ⟨g1,g2,_⟩ := R.wd.tb t ht
  rw [upd_ne ne,upd_ne ne]
  exact ⟨rfl,g1,g2⟩
 ·obtain ⟨h1,h2,u,h3,_⟩ := R.sl.own m
  have ne := ne_of_none h3 h
  rw [upd_ne ne,upd_ne ne]
  exact ⟨rfl,h1⟩
end
section
variable {K : PySem.W.Frag}
def EvW (K : PySem.W.Frag) (te : TE) (ρ : Env) (Q : D -> Env -> Prop) : Prop := ∀ F G H σ,RE K F G H σ ρ -> ∀ Q' : VK,
 (∀ v d ρ' G' H',Ex G G' -> RE K F G' H' σ ρ' -> Rep K G' v d -> Q d ρ' -> Q' v H') -> te σ H Q'
def EvN (K : PySem.W.Frag) (te : TE) (ρ : Env) (Q : D -> Env -> Prop) : Prop := ∀ F G H σ,RE K F G H σ ρ -> ∀ Q' : VK,
 (∀ p d ρ' G' H',Ex G G' -> RE K F G' H' σ ρ' -> G' p = none -> F p = none -> p ∉ ownA ρ' -> OwnR K G' (H' p) d -> Q d ρ' -> Q' (.ref p) H') -> te σ H Q'
def EvT (K : PySem.W.Frag) (tt : TT) (ρ : Env) (Q : Bool -> Env -> Prop) : Prop := ∀ F G H σ,RE K F G H σ ρ -> ∀ Q' : Bool -> Hp -> Prop,
 (∀ b ρ' G' H',Ex G G' -> RE K F G' H' σ ρ' -> Q b ρ' -> Q' b H') -> tt σ H Q'
def EvA (K : PySem.W.Frag) (ta : TA) (ρ : Env) (Q : List D -> Env -> Prop) : Prop := ∀ F G H σ,RE K F G H σ ρ -> ∀ Q' : List V -> Hp -> Prop,
 (∀ vs ds ρ' G' H',Ex G G' -> RE K F G' H' σ ρ' -> Reps K G' vs ds -> Q ds ρ' -> Q' vs H') -> ta σ H Q'
def EvO (K : PySem.W.Frag) (to : TO) (ρ : Env) (Q : Option Int -> Env -> Prop) : Prop := ∀ F G H σ,RE K F G H σ ρ -> ∀ Q' : Option Int -> Hp -> Prop,
 (∀ o ρ' G' H',Ex G G' -> RE K F G' H' σ ρ' -> Q o ρ' -> Q' o H') -> to σ H Q'
def Op1 (K : PySem.W.Frag) (r : V -> Hp -> VK -> Prop) (x : D) (ρ : Env) (Q : D -> Env -> Prop) : Prop := ∀ F G H σ,RE K F G H σ ρ -> ∀ v,Rep K G v x -> ∀ Q' : VK,
 (∀ z d ρ' G' H',Ex G G' -> RE K F G' H' σ ρ' -> Rep K G' z d -> Q d ρ' -> Q' z H') -> r v H Q'
def Op2 (K : PySem.W.Frag) (r : R2) (x y : D) (ρ : Env) (Q : D -> Env -> Prop) : Prop := ∀ F G H σ,RE K F G H σ ρ -> ∀ v w,Rep K G v x -> Rep K G w y -> ∀ Q' : VK,
 (∀ z d ρ' G' H',Ex G G' -> RE K F G' H' σ ρ' -> Rep K G' z d -> Q d ρ' -> Q' z H') -> r v w H Q'
def OpA (K : PySem.W.Frag) (r : List V -> Hp -> VK -> Prop) (xs : List D) (ρ : Env) (Q : D -> Env -> Prop) : Prop := ∀ F G H σ,RE K F G H σ ρ -> ∀ vs,Reps K G vs xs -> ∀ Q' : VK,
 (∀ z d ρ' G' H',Ex G G' -> RE K F G' H' σ ρ' -> Rep K G' z d -> Q d ρ' -> Q' z H') -> r vs H Q'
def OpN (K : PySem.W.Frag) (r : List V -> Hp -> VK -> Prop) (xs : List D) (ρ : Env) (Q : D -> Env -> Prop) : Prop := ∀ F G H σ,RE K F G H σ ρ -> ∀ vs,Reps K G vs xs -> ∀ Q' : VK,
 (∀ p d ρ' G' H',Ex G G' -> RE K F G' H' σ ρ' -> G' p = none -> F p = none -> p ∉ ownA ρ' -> OwnR K G' (H' p) d -> Q d ρ' -> Q' (.ref p) H') -> r vs H Q'
variable {te ta tb tc : TE} {tt tu : TT} {ts : TA} {ρ : Env} {Q : D -> Env -> Prop}
theorem ew_weak {Q₁ : D -> Env -> Prop} (h : EvW K te ρ Q₁) (w : ∀ d ρ',Q₁ d ρ' -> Q d ρ') : EvW K te ρ Q := fun F G H σ R Q' k=>h F G H σ R Q' fun v d ρ' G' H' e R' hv q=>k v d ρ' G' H' e R' hv (w d ρ' q)
theorem et_weak {Q Q₁ : Bool -> Env -> Prop} (h : EvT K tt ρ Q₁) (w : ∀ d ρ',Q₁ d ρ' -> Q d ρ') : EvT K tt ρ Q := fun F G H σ R Q' k=>h F G H σ R Q' fun v ρ' G' H' e R' q=>k v ρ' G' H' e R' (w v ρ' q)
theorem ew_var {i : Nat} {d : D} (h : ρ[i]? = some (.sh d)) (q : Q d ρ) : EvW K (tVar i) ρ Q := fun F G H σ R Q' k=>by
 obtain ⟨s,e,v,rfl,hv⟩ := R.sl.get h
 exact ⟨v,e,k v d ρ G H (Ex.refl G) R hv q⟩
theorem ew_int {i : Int} (q : Q (.int i) ρ) : EvW K (tC (.int i)) ρ Q := fun F G H σ R Q' k=>k _ _ ρ G H (Ex.refl G) R (.int i) q
theorem ew_str {s : Str} (q : Q (.str s) ρ) : EvW K (tC (.str s)) ρ Q := fun F G H σ R Q' k=>k _ _ ρ G H (Ex.refl G) R (.str s) q
theorem ew_bl {b : Bool} (q : Q (.bl b) ρ) : EvW K (tC (.bl b)) ρ Q := fun F G H σ R Q' k=>k _ _ ρ G H (Ex.refl G) R (.bl b) q
theorem ew_non (q : Q .non ρ) : EvW K (tC .non) ρ Q := fun F G H σ R Q' k=>k _ _ ρ G H (Ex.refl G) R .non q
theorem ew_c {v : V} {d : D} (h : ∀ G,Rep K G v d) (q : Q d ρ) : EvW K (tC v) ρ Q := fun F G H σ R Q' k=>k _ _ ρ G H (Ex.refl G) R (h G) q
theorem ew_un {r : V -> Hp -> VK -> Prop} (h : EvW K ta ρ fun x ρ1=>Op1 K r x ρ1 Q) : EvW K (tUn r ta) ρ Q := fun F G H σ R Q' k =>
 h F G H σ R _ fun v x ρ1 G1 H1 e1 R1 hv q=>q F G1 H1 σ R1 v hv Q' fun z d ρ' G' H' e' R' hz qz=>k z d ρ' G' H' (e1.trans e') R' hz qz
theorem ew_op {r : R2} (h : EvW K ta ρ fun x ρ1=>EvW K tb ρ1 fun y ρ2=>Op2 K r x y ρ2 Q) : EvW K (tOp r ta tb) ρ Q := fun F G H σ R Q' k =>
 h F G H σ R _ fun v x ρ1 G1 H1 e1 R1 hv q1=>q1 F G1 H1 σ R1 _ fun w y ρ2 G2 H2 e2 R2 hw q2 =>
  q2 F G2 H2 σ R2 v w (hv.mono e2) hw Q' fun z d ρ' G' H' e' R' hz qz=>k z d ρ' G' H' ((e1.trans e2).trans e') R' hz qz
theorem ea_nil {Q : List D -> Env -> Prop} (q : Q [] ρ) : EvA K tNil ρ Q := fun F G H σ R Q' k=>k [] [] ρ G H (Ex.refl G) R .nil q
theorem ea_cons {Q : List D -> Env -> Prop} (h : EvW K ta ρ fun x ρ1=>EvA K ts ρ1 fun xs ρ2=>Q (x :: xs) ρ2) : EvA K (tCons ta ts) ρ Q := fun F G H σ R Q' k =>
 h F G H σ R _ fun v x ρ1 G1 H1 e1 R1 hv q1=>q1 F G1 H1 σ R1 _ fun vs xs ρ2 G2 H2 e2 R2 hvs q2=>k _ _ ρ2 G2 H2 (e1.trans e2) R2 (.cons (hv.mono e2) hvs) q2
theorem ew_cb {r : List V -> Hp -> VK -> Prop} (h : EvA K ts ρ fun xs ρ1=>OpA K r xs ρ1 Q) : EvW K (tCB r ts) ρ Q := fun F G H σ R Q' k =>
 h F G H σ R _ fun vs xs ρ1 G1 H1 e1 R1 hv q=>q F G1 H1 σ R1 vs hv Q' fun z d ρ' G' H' e' R' hz qz=>k z d ρ' G' H' (e1.trans e') R' hz qz
theorem en_cb {r : List V -> Hp -> VK -> Prop} (h : EvA K ts ρ fun xs ρ1=>OpN K r xs ρ1 Q) : EvN K (tCB r ts) ρ Q := fun F G H σ R Q' k =>
 h F G H σ R _ fun vs xs ρ1 G1 H1 e1 R1 hv q=>q F G1 H1 σ R1 vs hv Q' fun p d ρ' G' H' e' R' a b c o qz=>k p d ρ' G' H' (e1.trans e') R' a b c o qz
theorem ownR_rep {G G' : Hp} {p : Addr} {o : Option HO} {d : D} (h : OwnR K G o d) (e : G' p = o) (x : Ex G G') : Rep K G' (.ref p) d := by
 cases d with
 | lst _=>obtain ⟨vs,e1,r⟩ := h; exact .lst (e.trans e1) (r.mono x)
 | dk _=>obtain ⟨vs,e1,k,r⟩ := h; exact .dk (.inl (e.trans e1)) k (r.mono x)
 | dt _=>obtain ⟨vs,e1,k,r⟩ := h; exact .dt (.inl (e.trans e1)) k (r.mono x)
 | ins _ _=>obtain ⟨dx,vs,e1,k,r⟩ := h; exact .ins (e.trans e1) k (r.mono x)
 | _=>exact h.elim
theorem RE.share {F G H : Hp} {σ : L2.St} {ρ : Env} (R : RE K F G H σ ρ) {p : Addr} {o : HO} (hp : H p = some o) (hG : G p = none) (hF : F p = none) (hO : p ∉ ownA ρ) (nt : ∀ ps,o ≠ .tbl ps) : RE K F (upd G p o) H σ ρ := by
 refine ⟨⟨R.wd.f,fun a u e=>?_,fun a u e=>?_,R.wd.ft,R.wd.tb.step (fun c q z=>Ex.new hG _ _ z) fun t ht=>?_⟩,R.sl.step (Ex.new hG) (fun a m=>?_),R.nd⟩
 ·by_cases q : a = p
  ·subst q; rw [upd_same] at e; cases e; exact hp
  ·rw [upd_ne q] at e; exact R.wd.g a u e
 ·by_cases q : a = p
  ·subst q; rw [hF] at e; cases e
  ·rw [upd_ne q]; exact R.wd.fg a u e
 ·obtain ⟨g1,g2,ps,g3,_⟩ := R.wd.tb t ht
  have ne : t.1 ≠ p := fun z=>by rw [z,hp] at g3; exact nt ps (Option.some.inj g3)
  rw [upd_ne ne]
  exact ⟨rfl,g1,g2⟩
 ·have ne : a ≠ p := fun z=>hO (z ▸ m)
  rw [upd_ne ne]
  exact ⟨rfl,(R.sl.own m).1⟩
theorem ew_new (h : EvN K te ρ Q) : EvW K te ρ Q := fun F G H σ R Q' k=>h F G H σ R Q' fun p d ρ' G' H' e R' hG hF hO o q=>by
 obtain ⟨u,hu,hm⟩ := o.some
 refine k (.ref p) d ρ' (upd G' p u) H' (e.trans (Ex.new hG)) (R'.share hu hG hF hO (nt_mut hm).2) (ownR_rep o (by rw [upd_same,hu]) (Ex.new hG)) q
theorem ownA_fresh {F G H : Hp} {σ : L2.St} {ρ : Env} (R : RE K F G H σ ρ) {p : Addr} (h : H p = none) : p ∉ ownA ρ := fun m=>by
 obtain ⟨_,_,u,e,_⟩ := R.sl.own m
 rw [h] at e; cases e
theorem RE.alone {F G H : Hp} {σ : L2.St} {ρ : Env} (R : RE K F G H σ ρ) {p : Addr} {o : HO} (h : H p = none) : RE K F G (upd H p o) σ ρ := by
 refine ⟨⟨R.wd.f.trans (Ex.new h),R.wd.g.trans (Ex.new h),R.wd.fg,R.wd.ft,R.wd.tb.step (fun _ _ z=>z) fun t ht=>⟨upd_ne (R.wd.tb.neN h t ht),(R.wd.tb t ht).1,(R.wd.tb t ht).2.1⟩⟩,R.sl.step (Ex.refl G) (fun a m=>?_),R.nd⟩
 obtain ⟨h1,h2,u,h3,_⟩ := R.sl.own m
 exact ⟨upd_ne (ne_of_none h3 h),h1⟩
theorem big {n : Nat} (h : n <= 100000) : n <= sizeLine := Nat.le_trans h (by decide)
theorem bigl {n : Nat} (h : n < 100000) : n < sizeLine := Nat.lt_of_lt_of_le h (by decide)
theorem en_lst (h : EvA K ts ρ fun xs ρ1=>xs.length <= 100000 /\ Q (.lst xs) ρ1) : EvN K (tLst ts) ρ Q := fun F G H σ R Q' k =>
 h F G H σ R _ fun vs xs ρ1 G1 H1 e1 R1 hv q=>⟨by rw [hv.length]; exact big q.1,fun p hp=>k p (.lst xs) ρ1 G1 _ e1 (R1.alone hp) (R1.wd.g.none hp) (R1.wd.f.none hp) (ownA_fresh R1 hp) ⟨vs,upd_same,hv⟩ q.2⟩
theorem ew_tup (h : EvA K ts ρ fun xs ρ1=>xs.length <= 100000 /\ Q (.tup xs) ρ1) : EvW K (tTup ts) ρ Q := fun F G H σ R Q' k =>
 h F G H σ R _ fun vs xs ρ1 G1 H1 e1 R1 hv q=>⟨by rw [hv.length]; exact big q.1,fun p hp=>k (.ref p) (.tup xs) ρ1 _ _ (e1.trans (Ex.new (R1.wd.g.none hp))) (R1.new hp) (.tup upd_same (hv.mono (Ex.new (R1.wd.g.none hp)))) q.2⟩
theorem en_dnewT (q : Q (.dt []) ρ) : EvN K tDNewT ρ Q := fun F G H σ R Q' k p hp=>k p (.dt []) ρ G _ (Ex.refl G) (R.alone hp) (R.wd.g.none hp) (R.wd.f.none hp) (ownA_fresh R hp) ⟨[],upd_same,rfl,.nil⟩ q
theorem rep_bl {H : Hp} {v : V} {b : Bool} (h : Rep K H v (.bl b)) : v = .bl b := by cases h; rfl
theorem rep_int {H : Hp} {v : V} {b : Int} (h : Rep K H v (.int b)) : v = .int b := by cases h; rfl
theorem rep_str {H : Hp} {v : V} {b : Str} (h : Rep K H v (.str b)) : v = .str b := by cases h; rfl
theorem rep_non {H : Hp} {v : V} (h : Rep K H v .non) : v = .non := by cases h; rfl
theorem et_test {Q : Bool -> Env -> Prop} (h : EvW K te ρ fun d ρ1=>∃ b,d = .bl b /\ Q b ρ1) : EvT K (tTest te) ρ Q := fun F G H σ R Q' k =>
 h F G H σ R _ fun v d ρ1 G1 H1 e1 R1 hv q=>by
  obtain ⟨b,rfl,q⟩ := q
  exact ⟨b,rep_bl hv,k b ρ1 G1 H1 e1 R1 q⟩
theorem et_B {Q : Bool -> Env -> Prop} (h : EvW K te ρ fun d ρ1=>∃ b,d = .bl b /\ Q b ρ1) : EvT K (tB te) ρ Q := fun F G H σ R Q' k =>
 h F G H σ R _ fun v d ρ1 G1 H1 e1 R1 hv q=>by
  obtain ⟨b,rfl,q⟩ := q
  exact ⟨b,rep_bl hv,k b ρ1 G1 H1 e1 R1 q⟩
theorem et_and {Q : Bool -> Env -> Prop} (h : EvT K tt ρ fun b ρ1=>if b = true then EvT K tu ρ1 Q else Q false ρ1) : EvT K (tAnd tt tu) ρ Q := fun F G H σ R Q' k =>
 h F G H σ R _ fun b ρ1 G1 H1 e1 R1 q=>by
  cases b with
  | true=>exact q F G1 H1 σ R1 Q' fun b ρ2 G2 H2 e2 R2 q2=>k b ρ2 G2 H2 (e1.trans e2) R2 q2
  | false=>exact k false ρ1 G1 H1 e1 R1 q
theorem et_or {Q : Bool -> Env -> Prop} (h : EvT K tt ρ fun b ρ1=>if b = true then Q true ρ1 else EvT K tu ρ1 Q) : EvT K (tOr tt tu) ρ Q := fun F G H σ R Q' k =>
 h F G H σ R _ fun b ρ1 G1 H1 e1 R1 q=>by
  cases b with
  | false=>exact q F G1 H1 σ R1 Q' fun b ρ2 G2 H2 e2 R2 q2=>k b ρ2 G2 H2 (e1.trans e2) R2 q2
  | true=>exact k true ρ1 G1 H1 e1 R1 q
theorem et_not {Q : Bool -> Env -> Prop} (h : EvT K tt ρ fun b ρ1=>Q (!b) ρ1) : EvT K (tNot tt) ρ Q := fun F G H σ R Q' k =>
 h F G H σ R _ fun b ρ1 G1 H1 e1 R1 q=>k (!b) ρ1 G1 H1 e1 R1 q
theorem et_yes {Q : Bool -> Env -> Prop} (q : Q true ρ) : EvT K tYes ρ Q := fun F G H σ R Q' k=>k true ρ G H (Ex.refl G) R q
theorem ew_andV (h : EvW K ta ρ fun x ρ1=>∃ c,x = .bl c /\ if c = true then EvW K tb ρ1 Q else Q (.bl false) ρ1) : EvW K (tAndV ta tb) ρ Q := fun F G H σ R Q' k =>
 h F G H σ R _ fun v x ρ1 G1 H1 e1 R1 hv q=>by
  obtain ⟨c,rfl,q⟩ := q
  refine ⟨c,rep_bl hv,?_⟩
  cases c with
  | true=>exact q F G1 H1 σ R1 Q' fun v d ρ2 G2 H2 e2 R2 hv q2=>k v d ρ2 G2 H2 (e1.trans e2) R2 hv q2
  | false=>exact k _ _ ρ1 G1 H1 e1 R1 (.bl false) q
theorem ew_orV (h : EvW K ta ρ fun x ρ1=>∃ c,x = .bl c /\ if c = true then Q (.bl true) ρ1 else EvW K tb ρ1 Q) : EvW K (tOrV ta tb) ρ Q := fun F G H σ R Q' k =>
 h F G H σ R _ fun v x ρ1 G1 H1 e1 R1 hv q=>by
  obtain ⟨c,rfl,q⟩ := q
  refine ⟨c,rep_bl hv,?_⟩
  cases c with
  | false=>exact q F G1 H1 σ R1 Q' fun v d ρ2 G2 H2 e2 R2 hv q2=>k v d ρ2 G2 H2 (e1.trans e2) R2 hv q2
  | true=>exact k _ _ ρ1 G1 H1 e1 R1 (.bl true) q
theorem ew_notV (h : EvW K ta ρ fun x ρ1=>∃ c,x = .bl c /\ Q (.bl (!c)) ρ1) : EvW K (tNotV ta) ρ Q := fun F G H σ R Q' k =>
 h F G H σ R _ fun v x ρ1 G1 H1 e1 R1 hv q=>by
  obtain ⟨c,rfl,q⟩ := q
  exact ⟨c,rep_bl hv,k _ _ ρ1 G1 H1 e1 R1 (.bl _) q⟩
theorem ew_if (h : EvT K tt ρ fun b ρ1=>if b = true then EvW K ta ρ1 Q else EvW K tb ρ1 Q) : EvW K (tIf tt ta tb) ρ Q := fun F G H σ R Q' k =>
 h F G H σ R _ fun b ρ1 G1 H1 e1 R1 q=>by
  cases b with
  | true=>exact q F G1 H1 σ R1 Q' fun v d ρ2 G2 H2 e2 R2 hv q2=>k v d ρ2 G2 H2 (e1.trans e2) R2 hv q2
  | false=>exact q F G1 H1 σ R1 Q' fun v d ρ2 G2 H2 e2 R2 hv q2=>k v d ρ2 G2 H2 (e1.trans e2) R2 hv q2
theorem ew_chain {r r' : R2} (h : EvW K ta ρ fun x ρ1=>EvW K tb ρ1 fun y ρ2=>Op2 K r x y ρ2 fun z ρ3=>∃ c,z = .bl c /\ if c = true then EvW K tc ρ3 fun w ρ4=>Op2 K r' y w ρ4 Q else Q (.bl false) ρ3) : EvW K (tChain r r' ta tb tc) ρ Q := fun F G H σ R Q' k =>
 h F G H σ R _ fun v x ρ1 G1 H1 e1 R1 hv q1=>q1 F G1 H1 σ R1 _ fun w y ρ2 G2 H2 e2 R2 hw q2 =>
  q2 F G2 H2 σ R2 v w (hv.mono e2) hw _ fun z d ρ3 G3 H3 e3 R3 hz qz=>by
   obtain ⟨c,rfl,q⟩ := qz
   refine ⟨c,rep_bl hz,?_⟩
   cases c with
   | true=>exact q F G3 H3 σ R3 _ fun u d ρ4 G4 H4 e4 R4 hu q4=>q4 F G4 H4 σ R4 w u (hw.mono (e3.trans e4)) hu Q' fun z d ρ5 G5 H5 e5 R5 hz q5=>k z d ρ5 G5 H5 ((((e1.trans e2).trans e3).trans e4).trans e5) R5 hz q5
   | false=>exact k _ _ ρ3 G3 H3 ((e1.trans e2).trans e3) R3 (.bl false) q
end
end DL
namespace DL
open PySem L2
variable [TabL]
section
variable {K : PySem.W.Frag} {F G H G' H' : Hp} {σ : L2.St} {ρ : Env}
def addF (F H : Hp) (as : List Addr) : Hp := fun a=>if a ∈ as then H a else F a
theorem addF_in {F H : Hp} {as : List Addr} {a : Addr} (h : a ∈ as) : addF F H as a = H a := if_pos h
theorem addF_out {F H : Hp} {as : List Addr} {a : Addr} (h : a ∉ as) : addF F H as a = F a := if_neg h
theorem RE.wdF (R : RE K F G H σ ρ) {as : List Addr} (sub : ∀ a ∈ as,a ∈ ownA ρ) : Wd (addF F H as) G H := by
 refine ⟨fun a o e=>?_,R.wd.g,fun a o e=>?_,fun a vs e=>?_,R.wd.tb.step (fun _ _ z=>z) fun t ht=>⟨rfl,(R.wd.tb t ht).1,?_⟩⟩
 ·by_cases m : a ∈ as
  ·rw [addF_in m] at e; exact e
  ·rw [addF_out m] at e; exact R.wd.f a o e
 ·by_cases m : a ∈ as
  ·exact (R.sl.own (sub a m)).1
  ·rw [addF_out m] at e; exact R.wd.fg a o e
 ·by_cases m : a ∈ as
  ·rw [addF_in m] at e
   obtain ⟨_,_,u,hu,nt⟩ := R.sl.own (sub a m)
   rw [hu] at e; cases e; exact nt.1 vs rfl
  ·rw [addF_out m] at e; exact R.wd.ft a vs e
 ·have m : t.1 ∉ as := fun m=>by
   obtain ⟨_,_,u,hu,nt⟩ := R.sl.own (sub _ m)
   exact R.wd.tb.ne hu nt t ht rfl
  rw [addF_out m]
  exact (R.wd.tb t ht).2.1
theorem RE.wdB (R : RE K F G H σ ρ) {as : List Addr} (sub : ∀ a ∈ as,a ∈ ownA ρ) (W : Wd (addF F H as) G' H') : Wd F G' H' := by
 refine ⟨fun a o e=>?_,W.g,fun a o e=>?_,R.wd.ft,W.tb.step (fun _ _ z=>z) fun t ht=>⟨rfl,(W.tb t ht).1,(R.wd.tb t ht).2.1⟩⟩
 ·have m : a ∉ as := fun m=>by rw [(R.sl.own (sub a m)).2.1] at e; cases e
  exact W.f a o (by rw [addF_out m]; exact e)
 ·have m : a ∉ as := fun m=>by rw [(R.sl.own (sub a m)).2.1] at e; cases e
  exact W.fg a o (by rw [addF_out m]; exact e)
theorem RE.keepF (R : RE K F G H σ ρ) {as : List Addr} (W : Wd (addF F H as) G' H') {a : Addr} (m : a ∈ as) (mo : a ∈ ownA ρ) : H' a = H a /\ G' a = none := by
 obtain ⟨_,_,u,e,_⟩ := R.sl.own mo
 refine ⟨?_,W.fg a u (by rw [addF_in m]; exact e)⟩
 rw [e]
 exact W.f a u (by rw [addF_in m]; exact e)
theorem RE.back (R : RE K F G H σ ρ) (W : Wd (addF F H (ownA ρ)) G' H') (e : Ex G G') : RE K F G' H' σ ρ :=
 ⟨R.wdB (fun _ m=>m) W,R.sl.step e fun a m=>R.keepF W m m,R.nd⟩
theorem nodup_apart : ∀ {ρ : Env} {i j : Nat} {r r' : Sl} {a : Addr},(ownA ρ).Nodup -> ρ[i]? = some r -> ρ[j]? = some r' -> i ≠ j -> a ∈ r.adr -> a ∉ r'.adr
 | [],_,_,_,_,_,_,e,_,_,_=>by simp at e
 | r0 :: ρ,0,0,_,_,_,_,_,_,n,_=>absurd rfl n
 | r0 :: ρ,0,j + 1,r,r',a,nd,e,f,_,m=>fun m'=>by
  simp at e; subst e
  rw [ownA_cons] at nd
  exact (List.nodup_append.mp nd).2.2 a m a (adr_mem (by simpa using f) m') rfl
 | r0 :: ρ,i + 1,0,r,r',a,nd,e,f,_,m=>fun m'=>by
  simp at f; subst f
  rw [ownA_cons] at nd
  exact (List.nodup_append.mp nd).2.2 a m' a (adr_mem (by simpa using e) m) rfl
 | r0 :: ρ,i + 1,j + 1,r,r',a,nd,e,f,n,m=>by
  rw [ownA_cons] at nd
  exact nodup_apart (List.nodup_append.mp nd).2.1 (by simpa using e) (by simpa using f) (fun z=>n (by rw [z])) m
theorem Slots.but {r' : Sl} : ∀ {σ : L2.St} {ρ : Env} {i : Nat} {s : Option V},Slots K F G H σ ρ -> σ[i]? = some s -> SlotOk K F G' H' s r' -> (∀ (j : Nat) s r,j ≠ i -> σ[j]? = some s -> ρ[j]? = some r -> SlotOk K F G H s r -> SlotOk K F G' H' s r) -> Slots K F G' H' σ (ρ.set i r')
 | [],[],_,_,_,e,_,_=>by simp at e
 | [],_ :: _,_,_,h,_,_,_=>h.elim
 | _ :: _,[],_,_,h,_,_,_=>h.elim
 | s0 :: σ,r0 :: ρ,0,s,h,e,hs,k=>by
  simp at e; subst e
  exact ⟨hs,h.2.map fun j s r h1 h2=>k (j + 1) s r (by omega) (by simpa using h1) (by simpa using h2)⟩
 | s0 :: σ,r0 :: ρ,i + 1,s,h,e,hs,k=>⟨k 0 s0 r0 (by omega) rfl rfl h.1,Slots.but h.2 (by simpa using e) hs fun j s r n h1 h2=>k (j + 1) s r (by omega) (by simpa using h1) (by simpa using h2)⟩
theorem RE.mut {r r' : Sl} {i : Nat} {a : Addr} {o : HO} {s : Option V} (R : RE K F G H σ ρ) (hr : ρ[i]? = some r) (ha : a ∈ r.adr) (ha' : r'.adr.Sublist r.adr) (hσ : σ[i]? = some s) (hs : SlotOk K F G (upd H a o) s r') : RE K F G (upd H a o) σ (ρ.set i r') := by
 obtain ⟨hG,hF,ua,hua,nta⟩ := R.sl.own (adr_mem hr ha)
 refine ⟨⟨fun b u e=>?_,fun b u e=>?_,R.wd.fg,R.wd.ft,R.wd.tb.step (fun _ _ z=>z) fun t ht=>⟨upd_ne ?_,(R.wd.tb t ht).1,(R.wd.tb t ht).2.1⟩⟩,R.sl.but hσ hs (fun j s r2 n h1 h2 q=>q.step (Ex.refl G) fun b m=>⟨upd_ne fun z=>?_,(q.own m).1⟩),List.Nodup.sublist (ownA_setr ha' hr) R.nd⟩
 ·rw [upd_ne (ne_of_none e hF)]; exact R.wd.f b u e
 ·rw [upd_ne (ne_of_none e hG)]; exact R.wd.g b u e
 ·exact R.wd.tb.ne hua nta t ht
 ·exact nodup_apart R.nd hr h2 (Ne.symm n) ha (z ▸ m)
theorem RE.give {i : Nat} {a : Addr} {d : D} (R : RE K F G H σ ρ) (hr : ρ[i]? = some (.own a d)) : ∃ o : HO,σ[i]? = some (some (.ref a)) /\ H a = some o /\ G a = none /\ RE K F (upd G a o) H σ (ρ.set i (.sh d)) /\ Rep K (upd G a o) (.ref a) d := by
 obtain ⟨s,hσ,rfl,hG,hF,ho⟩ := R.sl.get hr
 obtain ⟨o,e,hmu⟩ := ho.some
 have rp : Rep K (upd G a o) (.ref a) d := ownR_rep ho (by rw [upd_same,e]) (Ex.new hG)
 refine ⟨o,hσ,e,hG,⟨⟨R.wd.f,fun b u q=>?_,fun b u q=>?_,R.wd.ft,R.wd.tb.step (fun c q z=>Ex.new hG _ _ z) fun t ht=>⟨rfl,?_,(R.wd.tb t ht).2.1⟩⟩,R.sl.but hσ (show SlotOk K F (upd G a o) H (some (.ref a)) (.sh d) from ⟨_,rfl,rp⟩) (fun j s r2 n h1 h2 q=>q.step (Ex.new hG) fun b m=>⟨rfl,?_⟩),List.Nodup.sublist (ownA_setr (r' := .sh d) (List.nil_sublist _) hr) R.nd⟩,rp⟩
 ·by_cases z : b = a
  ·subst z; rw [upd_same] at q; cases q; exact e
  ·rw [upd_ne z] at q; exact R.wd.g b u q
 ·by_cases z : b = a
  ·subst z; rw [hF] at q; cases q
  ·rw [upd_ne z]; exact R.wd.fg b u q
 ·rw [upd_ne (R.wd.tb.ne e (nt_mut hmu) t ht)]
  exact (R.wd.tb t ht).1
 ·have z : b ≠ a := fun z=>nodup_apart R.nd hr h2 (Ne.symm n) (List.mem_singleton.mpr rfl) (z ▸ m)
  rw [upd_ne z]
  exact (q.own m).1
end
def spP (K : PySem.W.Frag) (T : List D -> (D -> Prop) -> Prop) : Sp := fun vs H Q _=>∃ F G ds Qd,Wd F G H /\ Reps K G vs ds /\ T ds Qd ∧
 ∀ v d G' H',Ex G G' -> Wd F G' H' -> Rep K G' v d -> Qd d -> Q v H'
def spN (K : PySem.W.Frag) (T : List D -> (D -> Prop) -> Prop) : Sp := fun vs H Q _=>∃ F G ds Qd,Wd F G H /\ Reps K G vs ds /\ T ds Qd ∧
 ∀ p d G' H',Ex G G' -> Wd F G' H' -> G' p = none -> F p = none -> OwnR K G' (H' p) d -> Qd d -> Q (.ref p) H'
section
variable {K : PySem.W.Frag} {te ta tb tc : TE} {tt tu : TT} {ts : TA} {ρ : Env} {Q : D -> Env -> Prop} {T : List D -> (D -> Prop) -> Prop} {E : XK}
theorem ew_callP (h : EvA K ts ρ fun ds ρ1=>T ds fun d=>Q d ρ1) : EvW K (tCall (spP K T) [] E ts) ρ Q := fun F G H σ R Q' k =>
 h F G H σ R _ fun vs ds ρ1 G1 H1 e1 R1 hv q=>by
  refine ⟨addF F H1 (ownA ρ1),G1,ds,_,R1.wdF (fun _ m=>m),by rw [List.append_nil]; exact hv,q,fun v d G' H' e W hd qd=>?_⟩
  exact k v d ρ1 G' H' (e1.trans e) (R1.back W e) hd qd
theorem en_callN (h : EvA K ts ρ fun ds ρ1=>T ds fun d=>Q d ρ1) : EvN K (tCall (spN K T) [] E ts) ρ Q := fun F G H σ R Q' k =>
 h F G H σ R _ fun vs ds ρ1 G1 H1 e1 R1 hv q=>by
  refine ⟨addF F H1 (ownA ρ1),G1,ds,_,R1.wdF (fun _ m=>m),by rw [List.append_nil]; exact hv,q,fun p d G' H' e W hG hF ho qd=>?_⟩
  have np : p ∉ ownA ρ1 := fun m=>by
   obtain ⟨_,_,u,hu,_⟩ := R1.sl.own m
   rw [addF_in m,hu] at hF; cases hF
  rw [addF_out np] at hF
  exact k p d ρ1 G' H' (e1.trans e) (R1.back W e) hG hF np ho qd
end
structure EndD where
 nx : Env -> Prop
 rt : D -> Env -> Prop
 bk : Env -> Prop := fun _=>False
 ct : Env -> Prop := fun _=>False
 ro : D -> Env -> Prop := fun _ _=>False
 W : XK := fun _ _ _=>False
 xx : Str -> Str -> D -> Prop := fun _ _ _=>False
structure Links (K : PySem.W.Frag) (F G : Hp) (E : EndD) (Dn : Ends) : Prop where
 nx : ∀ σ' ρ' G' H',Ex G G' -> RE K F G' H' σ' ρ' -> E.nx ρ' -> Dn.nx σ' H'
 rt : ∀ v d σ' ρ' G' H',Ex G G' -> RE K F G' H' σ' ρ' -> Rep K G' v d -> E.rt d ρ' -> Dn.rt v H'
 bk : ∀ σ' ρ' G' H',Ex G G' -> RE K F G' H' σ' ρ' -> E.bk ρ' -> Dn.bk σ' H'
 ct : ∀ σ' ρ' G' H',Ex G G' -> RE K F G' H' σ' ρ' -> E.ct ρ' -> Dn.ct σ' H'
 ro : ∀ p d σ' ρ' G' H',Ex G G' -> RE K F G' H' σ' ρ' -> G' p = none -> F p = none -> p ∉ ownA ρ' -> OwnR K G' (H' p) d -> E.ro d ρ' -> Dn.rt (.ref p) H'
 xx : ∀ C f v d dx G' H',Ex G G' -> Wd F G' H' -> H' dx = some (.xd [(f,v)]) -> G' dx = none -> F dx = none -> Rep K G' v d -> E.xx C f d -> E.W (.ref (He.ga K C)) (some dx) H'
theorem Links.mono {K : PySem.W.Frag} {F G G1 : Hp} {E : EndD} {Dn : Ends} (L : Links K F G E Dn) (e : Ex G G1) : Links K F G1 E Dn :=
 ⟨fun σ' ρ' G' H' x=>L.nx σ' ρ' G' H' (e.trans x),fun v d σ' ρ' G' H' x=>L.rt v d σ' ρ' G' H' (e.trans x),fun σ' ρ' G' H' x=>L.bk σ' ρ' G' H' (e.trans x),fun σ' ρ' G' H' x=>L.ct σ' ρ' G' H' (e.trans x),fun p d σ' ρ' G' H' x=>L.ro p d σ' ρ' G' H' (e.trans x),fun C f v d dx G' H' x=>L.xx C f v d dx G' H' (e.trans x)⟩
def WS (K : PySem.W.Frag) (t : TS) (ρ : Env) (E : EndD) : Prop := ∀ F G H σ Dn,RE K F G H σ ρ -> Links K F G E Dn -> t Dn σ H
def GW (K : PySem.W.Frag) (g : TG) (d : D) (ρ : Env) (Q : Env -> Prop) : Prop := ∀ F G H σ v,RE K F G H σ ρ -> Rep K G v d -> ∀ Q' : L2.St -> Hp -> Prop,(∀ σ' ρ' G' H',Ex G G' -> RE K F G' H' σ' ρ' -> Q ρ' -> Q' σ' H') -> g v σ H Q'
def GWs (K : PySem.W.Frag) (g : TGs) (ds : List D) (ρ : Env) (Q : Env -> Prop) : Prop := ∀ F G H σ vs,RE K F G H σ ρ -> Reps K G vs ds -> ∀ Q' : L2.St -> Hp -> Prop,(∀ σ' ρ' G' H',Ex G G' -> RE K F G' H' σ' ρ' -> Q ρ' -> Q' σ' H') -> g vs σ H Q'
section
variable {K : PySem.W.Frag} {te ta tb tc : TE} {tt : TT} {t u : TS} {ts : TA} {ρ : Env} {E : EndD}
theorem ws_next (h : E.nx ρ) : WS K tNext ρ E := fun F G H σ Dn R L=>L.nx σ ρ G H (Ex.refl G) R h
theorem ws_seq (h : WS K t ρ { E with nx := fun ρ'=>WS K u ρ' E }) : WS K (tSeq t u) ρ E := fun F G H σ Dn R L =>
 h F G H σ { Dn with nx := u Dn } R ⟨fun σ' ρ' G' H' e R' q=>q F G' H' σ' Dn R' (L.mono e),L.rt,L.bk,L.ct,L.ro,L.xx⟩
theorem ws_drop (h : EvW K te ρ fun _ ρ'=>E.nx ρ') : WS K (tDrop te) ρ E := fun F G H σ Dn R L=>h F G H σ R _ fun v d ρ' G' H' e R' _ q=>L.nx σ ρ' G' H' e R' q
theorem ws_ret (h : EvW K te ρ fun d ρ'=>E.rt d ρ') : WS K (tRet te) ρ E := fun F G H σ Dn R L=>h F G H σ R _ fun v d ρ' G' H' e R' hv q=>L.rt v d σ ρ' G' H' e R' hv q
theorem ws_retNew (h : EvN K te ρ fun d ρ'=>E.ro d ρ') : WS K (tRet te) ρ E := fun F G H σ Dn R L=>h F G H σ R _ fun p d ρ' G' H' e R' hG hF hO o q=>L.ro p d σ ρ' G' H' e R' hG hF hO o q
theorem ws_retO {i : Nat} {a : Addr} {d : D} (hi : ρ[i]? = some (.own a d)) (h : E.rt d (ρ.set i (.sh d))) : WS K (tRet (tVar i)) ρ E := fun F G H σ Dn R L=>by
 obtain ⟨o,hσ,_,hG,R',rp⟩ := R.give hi
 exact ⟨.ref a,hσ,L.rt _ d σ _ _ H (Ex.new hG) R' rp h⟩
theorem ws_if (h : EvT K tt ρ fun b ρ'=>if b = true then WS K t ρ' E else WS K u ρ' E) : WS K (tIfS tt t u) ρ E := fun F G H σ Dn R L=>h F G H σ R _ fun b ρ' G' H' e R' q=>by
 cases b with
 | true=>exact q F G' H' σ Dn R' (L.mono e)
 | false=>exact q F G' H' σ Dn R' (L.mono e)
theorem gw_name {i : Nat} {d : D} {Q : Env -> Prop} (h : Q (ρ.set i (.sh d))) : GW K (gName i) d ρ Q := fun F G H σ v R hv Q' k=>k _ _ G H (Ex.refl G) (R.setSh hv i) h
theorem gws_nil {Q : Env -> Prop} (h : Q ρ) : GWs K gNil [] ρ Q := fun F G H σ vs R hv Q' k=>⟨hv.nil_inv,k σ ρ G H (Ex.refl G) R h⟩
theorem gws_cons {g : TG} {gs : TGs} {d : D} {ds : List D} {Q : Env -> Prop} (h : GW K g d ρ fun ρ1=>GWs K gs ds ρ1 Q) : GWs K (gCons g gs) (d :: ds) ρ Q := fun F G H σ vs R hv Q' k=>by
 obtain ⟨v,ws,rfl,h1,h2⟩ := hv.cons_inv
 exact ⟨v,ws,rfl,h F G H σ v R h1 _ fun σ1 ρ1 G1 H1 e1 R1 q1=>q1 F G1 H1 σ1 ws R1 (h2.mono e1) Q' fun σ2 ρ2 G2 H2 e2 R2 q2=>k σ2 ρ2 G2 H2 (e1.trans e2) R2 q2⟩
theorem rep_tup {H : Hp} {v : V} {ds : List D} (h : Rep K H v (.tup ds)) : ∃ a vs,v = .ref a /\ H a = some (.tup vs) /\ Reps K H vs ds := by
 cases h with | tup a b=>exact ⟨_,_,rfl,a,b⟩
theorem rep_lst {H : Hp} {v : V} {ds : List D} (h : Rep K H v (.lst ds)) : ∃ a vs,v = .ref a /\ H a = some (.lst vs) /\ Reps K H vs ds := by
 cases h with | lst a b=>exact ⟨_,_,rfl,a,b⟩
theorem rep_dt {H : Hp} {v : V} {ps : List (List Key × D)} (h : Rep K H v (.dt ps)) : ∃ a kvs,v = .ref a /\ Rd H a (.dT kvs) /\ kvs.map (·.1) = ps.map (·.1) /\ Reps K H (kvs.map (·.2)) (ps.map (·.2)) := by
 cases h with | dt a b c=>exact ⟨_,_,rfl,a,b,c⟩
theorem rep_ins {H : Hp} {v : V} {C : Str} {ps : List (Str × D)} (h : Rep K H v (.ins C ps)) : ∃ a dx fs,v = .ref a /\ H a = some (.ins (He.ga K C) dx fs) /\ fs.map (·.1) = ps.map (·.1) /\ Reps K H (fs.map (·.2)) (ps.map (·.2)) := by
 cases h with | ins a b c=>exact ⟨_,_,_,rfl,a,b,c⟩
theorem rep_kt {H : Hp} {v : V} {ds : List D} (h : Rep K H v (.kt ds)) : ∃ a vs,v = .ref a /\ SqT K H a vs /\ Reps K H vs ds := by
 cases h with | kt a b=>exact ⟨_,_,rfl,a,b⟩
theorem Ex.sqK {H H' : Hp} {a : Addr} {xs : List V} (e : Ex H H') (h : SqT K H a xs) : SqT K H' a xs := e.rdx.sqT h
theorem Ex.sqT {H H' : Hp} {a : Addr} {xs : List V} (e : Ex H H') (h : H a = some (.tup xs)) : SqT K H' a xs := .inl (.inl (e _ _ h))
theorem gw_tup {n : Nat} {gs : TGs} {ds : List D} {Q : Env -> Prop} (hn : ds.length = n) (h : GWs K gs ds ρ Q) : GW K (gTup K n gs) (.tup ds) ρ Q := fun F G H σ v R hv Q' k=>by
 obtain ⟨a,vs,rfl,h1,h2⟩ := rep_tup hv
 exact ⟨a,vs,rfl,R.wd.g.sqT h1,by rw [h2.length]; exact hn,h F G H σ vs R h2 Q' k⟩
theorem ws_asg {g : TG} (h : EvW K te ρ fun d ρ1=>GW K g d ρ1 E.nx) : WS K (tAsg te g) ρ E := fun F G H σ Dn R L=>h F G H σ R _ fun v d ρ1 G1 H1 e1 R1 hv q =>
 q F G1 H1 σ v R1 hv _ fun σ2 ρ2 G2 H2 e2 R2 q2=>L.nx σ2 ρ2 G2 H2 (e1.trans e2) R2 q2
theorem ownA_set_own {r : Sl} : ∀ {ρ : Env} (i : Nat),(ownA ρ).Nodup -> r.adr.Nodup -> (∀ a ∈ r.adr,a ∉ ownA ρ) -> (ownA (ρ.set i r)).Nodup /\ ∀ b,b ∈ ownA (ρ.set i r) -> b ∈ r.adr \/ b ∈ ownA ρ
 | [],_,h,_,_=>⟨h,fun b m=>.inr m⟩
 | r0 :: ρ,0,h,h1,h2=>by
  show (ownA (r :: ρ)).Nodup /\ ∀ b,b ∈ ownA (r :: ρ) -> _
  rw [ownA_cons] at h h2
  rw [ownA_cons]
  refine ⟨List.nodup_append.mpr ⟨h1,(List.nodup_append.mp h).2.1,fun a m b m' e=>h2 a m (by rw [e]; exact List.mem_append_right _ m')⟩,fun b m=>?_⟩
  rw [ownA_cons]
  exact (List.mem_append.mp m).imp id (List.mem_append_right _)
 | r0 :: ρ,i + 1,h,h1,h2=>by
  show (ownA (r0 :: ρ.set i r)).Nodup /\ ∀ b,b ∈ ownA (r0 :: ρ.set i r) -> _
  rw [ownA_cons] at h h2
  rw [ownA_cons,ownA_cons]
  obtain ⟨n1,n2,n3⟩ := List.nodup_append.mp h
  obtain ⟨ih1,ih2⟩ := ownA_set_own (ρ := ρ) i n2 h1 (fun a m z=>h2 a m (List.mem_append_right _ z))
  refine ⟨List.nodup_append.mpr ⟨n1,ih1,fun a m b m' e=>?_⟩,fun b m=>?_⟩
  ·rcases ih2 b m' with z | z
   ·exact h2 b z (List.mem_append_left _ (e ▸ m))
   ·exact n3 a m b z e
  ·rcases List.mem_append.mp m with m | m
   ·exact .inr (List.mem_append_left _ m)
   ·exact (ih2 b m).imp id (List.mem_append_right _)
theorem RE.setOwn {F G H : Hp} {σ : L2.St} {ρ : Env} {p : Addr} {d : D} (R : RE K F G H σ ρ) (hG : G p = none) (hF : F p = none) (hO : p ∉ ownA ρ) (o : OwnR K G (H p) d) (i : Nat) : RE K F G H (σ.set i (some (.ref p))) (ρ.set i (.own p d)) :=
 ⟨R.wd,R.sl.set (r := .own p d) ⟨rfl,hG,hF,o⟩ i,(ownA_set_own (r := .own p d) i R.nd (show [p].Nodup from List.nodup_cons.mpr ⟨List.not_mem_nil,List.nodup_nil⟩) (fun a m=>by rw [List.mem_singleton.mp m]; exact hO)).1⟩
theorem ws_asgN {i : Nat} (h : EvN K te ρ fun d ρ1=>∀ p,E.nx (ρ1.set i (.own p d))) : WS K (tAsg te (gName i)) ρ E := fun F G H σ Dn R L=>h F G H σ R _ fun p d ρ1 G1 H1 e1 R1 hG hF hO o q =>
 L.nx _ _ G1 H1 e1 (R1.setOwn hG hF hO o i) (q p)
end
end DL
namespace DL
open PySem L2
variable [TabL]
theorem pe_or {X : Cx} {e : Expr} {t u : TE} (h : PE X e t) (h' : PE X e u) : PE X e (fun σ H Q=>t σ H Q \/ u σ H Q) :=
 ⟨fun pins s σ H Q I q=>q.elim (fun q=>h.run pins s σ H Q I q) fun q=>h'.run pins s σ H Q I q⟩
section
variable {K : PySem.W.Frag} {te ta tb tc : TE} {tt tu : TT} {ts : TA} {ρ : Env} {Q : D -> Env -> Prop}
theorem op2_int {f : Int -> Int -> Int} {i j : Int} (q : Q (.int (f i j)) ρ) : Op2 K (rI0 fun i j=>.int (f i j)) (.int i) (.int j) ρ Q := fun F G H σ R v w hv hw Q' k =>
 ⟨i,j,rep_int hv,rep_int hw,k _ _ ρ G H (Ex.refl G) R (.int _) q⟩
theorem op2_intC {C : Int -> Int -> Prop} {f : Int -> Int -> Int} {i j : Int} (c : C i j) (q : Q (.int (f i j)) ρ) : Op2 K (rI C fun i j=>.int (f i j)) (.int i) (.int j) ρ Q := fun F G H σ R v w hv hw Q' k =>
 ⟨i,j,rep_int hv,rep_int hw,c,k _ _ ρ G H (Ex.refl G) R (.int _) q⟩
theorem op2_cmp {f : Int -> Int -> Bool} {i j : Int} (q : Q (.bl (f i j)) ρ) : Op2 K (rI0 fun i j=>.bl (f i j)) (.int i) (.int j) ρ Q := fun F G H σ R v w hv hw Q' k =>
 ⟨i,j,rep_int hv,rep_int hw,k _ _ ρ G H (Ex.refl G) R (.bl _) q⟩
theorem op1_neg {i : Int} (q : Q (.int (-i)) ρ) : Op1 K (rU fun i=>.int (-i)) (.int i) ρ Q := fun F G H σ R v hv Q' k=>⟨i,rep_int hv,k _ _ ρ G H (Ex.refl G) R (.int _) q⟩
theorem op2_eq_int {i j : Int} (q : Q (.bl (decide (i = j))) ρ) : Op2 K rEq (.int i) (.int j) ρ Q := fun F G H σ R v w hv hw Q' k=>by
 rw [rep_int hv,rep_int hw]
 refine ⟨rfl,?_⟩
 have e : decide (V.int i = V.int j) = decide (i = j) := by simp
 rw [e]; exact k _ _ ρ G H (Ex.refl G) R (.bl _) q
theorem op2_eq_str {i j : Str} (q : Q (.bl (decide (i = j))) ρ) : Op2 K rEq (.str i) (.str j) ρ Q := fun F G H σ R v w hv hw Q' k=>by
 rw [rep_str hv,rep_str hw]
 refine ⟨rfl,?_⟩
 have e : decide (V.str i = V.str j) = decide (i = j) := by simp
 rw [e]; exact k _ _ ρ G H (Ex.refl G) R (.bl _) q
theorem op2_ne_int {i j : Int} (q : Q (.bl (!decide (i = j))) ρ) : Op2 K rNe (.int i) (.int j) ρ Q := fun F G H σ R v w hv hw Q' k=>by
 rw [rep_int hv,rep_int hw]
 refine ⟨rfl,?_⟩
 have e : decide (V.int i = V.int j) = decide (i = j) := by simp
 rw [e]; exact k _ _ ρ G H (Ex.refl G) R (.bl _) q
theorem op2_ne_bl {i j : Bool} (q : Q (.bl (!decide (i = j))) ρ) : Op2 K rNe (.bl i) (.bl j) ρ Q := fun F G H σ R v w hv hw Q' k=>by
 rw [rep_bl hv,rep_bl hw]
 refine ⟨rfl,?_⟩
 have e : decide (V.bl i = V.bl j) = decide (i = j) := by simp
 rw [e]; exact k _ _ ρ G H (Ex.refl G) R (.bl _) q
def D.isNon : D -> Bool
 | .non=>true
 | .raw v=>decide (v = .non)
 | .tag v _=>decide (v = .non)
 | _=>false
theorem op2_isN {x : D} (q : Q (.bl x.isNon) ρ) : Op2 K (fun x y H Q=>y = .non /\ Q (.bl (decide (x = .non))) H) x .non ρ Q := fun F G H σ R v w hv hw Q' k=>by
 refine ⟨rep_non hw,?_⟩
 have e : decide (v = V.non) = x.isNon := by
  cases hv <;> first | rfl | exact decide_eq_false (fun z=>nomatch z)
 rw [e]; exact k _ _ ρ G H (Ex.refl G) R (.bl _) q
def D.ty : D -> String
 | .non => "NoneType" | .bl _ => "bool" | .int _ => "int" | .str _ => "str" | .lst _ => "list" | .tup _ => "tuple" | .dk _ => "dict" | .dt _ => "dict" | .ins _ _ => "?" | .scr _ => "?" | .kt _ => "tuple" | .raw _ => "?" | .tag _ _ => "?" | .exc _ _ => "?"
def D.plain : D -> Bool
 | .ins _ _=>false
 | .dt _=>false
 | .scr _=>false
 | .raw _=>false
 | .tag _ _=>false
 | .exc _ _=>false
 | _=>true
def tyIs (t n : String) : Bool := t == n || (t == "bool" && n == "int")
def tyNames : List String := ["bool", "int", "str", "list", "tuple", "dict"]
theorem rd_tyX {H : Hp} {v : V} {d : D} (hp : d.plain = true) (h : Rep K H v d) : TyX K H v (.type d.ty) := by
 cases h with
 | non=>exact .base .non
 | bl b=>exact .base (.bl b)
 | int b=>exact .base (.int b)
 | str b=>exact .base (.str b)
 | lst a b=>exact .base (.lst a)
 | tup a b=>exact .base (.tup a)
 | kt a b =>
  rcases a with (a | ⟨o,a⟩) | ⟨o,its,n,a,c,_⟩
  ·exact .base (.tup a)
  ·exact .fTuple a
  ·exact .kTuple a c
 | dk a b c =>
  rcases a with a | ⟨o,a⟩
  ·exact .base (.dK a)
  ·exact .fDict a
 | dt a b c=>cases hp
 | ins a b c=>cases hp
 | scr a=>cases hp
 | raw=>cases hp
 | tag _=>cases hp
 | exc _ _ _ _=>cases hp
 | ex0 _=>cases hp
theorem kit_names : ∀ t ∈ ["NoneType", "bool", "int", "str", "list", "tuple", "dict"],∀ n ∈ tyNames,kitB t n = some (tyIs t n) := by decide +kernel
theorem kit_d {d : D} (hp : d.plain = true) {n : String} (hn : n ∈ tyNames) : PySem.W.kitOne K (.type d.ty) (.type n) = some (tyIs d.ty n) :=
 kit_ty (kit_names d.ty (by cases d <;> first | (simp [D.ty]; done) | cases hp) n hn)
theorem ew_isi {n : String} (hn : n ∈ tyNames) (h : EvW K te ρ fun d ρ1=>d.plain = true /\ Q (.bl (tyIs d.ty n)) ρ1) : EvW K (tCB (rIsi K) (tCons te (tCons (tC (.ty n)) tNil))) ρ Q := fun F G H σ R Q' k =>
 h F G H σ R _ fun v d ρ1 G1 H1 e1 R1 hv q=>⟨v,.ty n,_,.type n,_,rfl,.ty n,rd_tyX q.1 (hv.mono R1.wd.g),kit_d q.1 hn,k _ _ ρ1 G1 H1 e1 R1 (.bl _) q.2⟩
theorem kitAny_names {d : D} (hp : d.plain = true) : ∀ (ns : List String),(∀ n ∈ ns,n ∈ tyNames) -> PySem.W.kitAny K (.type d.ty) (ns.map Value.type) = some (ns.any fun n=>tyIs d.ty n)
 | [],_=>kitAny_nil
 | n :: ns,h=>by
  refine kitAny_cons (kit_d hp (h n List.mem_cons_self)) (fun e=>?_) (fun e=>?_)
  ·rw [kitAny_names hp ns (fun m hm=>h m (List.mem_cons_of_mem _ hm)),List.any_cons,e,Bool.false_or]
  ·rw [List.any_cons,e,Bool.true_or]
theorem ew_isi2 {n m : String} (hn : n ∈ tyNames) (hm : m ∈ tyNames) (h : EvW K te ρ fun d ρ1=>d.plain = true /\ Q (.bl (tyIs d.ty n || tyIs d.ty m)) ρ1) :
  EvW K (tCB (rIsiT K) (tCons te (tCons (tTup (tCons (tC (.ty n)) (tCons (tC (.ty m)) tNil))) tNil))) ρ Q := fun F G H σ R Q' k =>
 h F G H σ R _ fun v d ρ1 G1 H1 e1 R1 hv q=>⟨by show 2 <= sizeLine; decide,fun p hp=>by
  have e2 : Ex G1 (upd G1 p (.tup [.ty n,.ty m])) := Ex.new (R1.wd.g.none hp)
  have R2 := R1.new (o := .tup [.ty n,.ty m]) hp
  refine ⟨v,p,[.ty n,.ty m],_,[.type n,.type m],_,rfl,upd_same,.cons (.ty n) (.cons (.ty m) .nil),rd_tyX q.1 ((hv.mono e2).mono R2.wd.g),kitAny_names q.1 [n,m] ?_,?_⟩
  ·intro x hx
   simp at hx
   rcases hx with rfl | rfl
   ·exact hn
   ·exact hm
  ·refine k _ _ ρ1 _ _ (e1.trans e2) R2 (.bl _) ?_
   have e : ([n,m].any fun z=>tyIs d.ty z) = (tyIs d.ty n || tyIs d.ty m) := by simp
   rw [e]; exact q.2⟩
def rLenU (K : PySem.W.Frag) : List V -> Hp -> VK -> Prop := fun xs H Q=>((∃ p ys,xs = [.ref p] /\ (SqL K H p ys \/ SqT K H p ys) /\ Q (.int ys.length) H) \/ ∃ z,xs = [.str z] /\ z.length <= sizeLine /\ Q (.int z.length) H) \/ ∃ a kvs,xs = [V.ref a] /\ H a = some (.dK kvs) /\ Q (.int kvs.length) H
theorem call_lenU {X : Cx} : CallR X (.builtin "len") (rLenU X.K) := CallR.or (CallR.or call_len_seq call_len_str) call_lenD
theorem opa_len_lst {xs : List D} (q : Q (.int xs.length) ρ) : OpA K (rLenU K) [.lst xs] ρ Q := fun F G H σ R vs hv Q' k=>by
 obtain ⟨v,rfl,h⟩ := hv.one
 obtain ⟨a,ws,rfl,h1,h2⟩ := rep_lst h
 refine .inl (.inl ⟨a,ws,rfl,.inl (.inl (.inl (R.wd.g _ _ h1))),?_⟩)
 rw [h2.length]; exact k _ _ ρ G H (Ex.refl G) R (.int _) q
theorem opa_len_tup {xs : List D} (q : Q (.int xs.length) ρ) : OpA K (rLenU K) [.tup xs] ρ Q := fun F G H σ R vs hv Q' k=>by
 obtain ⟨v,rfl,h⟩ := hv.one
 obtain ⟨a,ws,rfl,h1,h2⟩ := rep_tup h
 refine .inl (.inl ⟨a,ws,rfl,.inr (R.wd.g.sqT h1),?_⟩)
 rw [h2.length]; exact k _ _ ρ G H (Ex.refl G) R (.int _) q
theorem opa_len_str {x : Str} (hx : x.length <= 100000) (q : Q (.int x.length) ρ) : OpA K (rLenU K) [.str x] ρ Q := fun F G H σ R vs hv Q' k=>by
 obtain ⟨v,rfl,h⟩ := hv.one
 rw [rep_str h]
 exact .inl (.inr ⟨x,rfl,big hx,k _ _ ρ G H (Ex.refl G) R (.int _) q⟩)
theorem reps_bls {H : Hp} : ∀ {vs : List V} {bs : List Bool},Reps K H vs (bs.map D.bl) -> vs = bs.map V.bl
 | _,[],h=>h.nil_inv
 | _,b :: bs,h=>by
  obtain ⟨v,ws,rfl,h1,h2⟩ := h.cons_inv
  rw [rep_bl h1,reps_bls h2]; rfl
theorem opa_all {bs : List Bool} (q : Q (.bl (bs.all id)) ρ) : OpA K (rAll K) [.lst (bs.map D.bl)] ρ Q := fun F G H σ R vs hv Q' k=>by
 obtain ⟨v,rfl,h⟩ := hv.one
 obtain ⟨a,ws,rfl,h1,h2⟩ := rep_lst h
 rw [reps_bls h2] at h1
 exact ⟨a,bs,rfl,.inl (.inl (R.wd.g _ _ h1)),k _ _ ρ G H (Ex.refl G) R (.bl _) q⟩
structure Yields (K : PySem.W.Frag) (G : Hp) (J : It) (ds : List D) : Prop where
 go : ∀ F G2 H2 σ ρ i,Ex G G2 -> RE K F G2 H2 σ ρ -> i < ds.length -> J.go i H2
 stop : ∀ F G2 H2 σ ρ,Ex G G2 -> RE K F G2 H2 σ ρ -> J.stop ds.length H2
 yld : ∀ F G2 H2 σ ρ i x H3,Ex G G2 -> RE K F G2 H2 σ ρ -> i < ds.length -> J.yld i H2 x H3 -> ∃ G3 d,Ex G2 G3 /\ RE K F G3 H3 σ ρ /\ ds[i]? = some d /\ Rep K G3 x d
def EvI (K : PySem.W.Frag) (wi : TI) (ρ : Env) (Q : List D -> Env -> Prop) : Prop := ∀ F G H σ,RE K F G H σ ρ -> ∀ R' : It -> Hp -> Prop,
 (∀ J ds ρ' G' H',Ex G G' -> RE K F G' H' σ ρ' -> Yields K G' J ds -> Q ds ρ' -> R' J H') -> wi σ H R'
theorem yl_list {G : Hp} {a : Addr} {vs : List V} {ds : List D} (h1 : G a = some (.lst vs)) (h2 : Reps K G vs ds) : Yields K G (Itl K a) ds where
 go := fun F G2 H2 σ ρ i e R hi=>⟨vs,vs[i]'(by rw [h2.length]; exact hi),.inl (.inl (R.wd.g _ _ (e _ _ h1))),by rw [List.getElem?_eq_getElem]⟩
 stop := fun F G2 H2 σ ρ e R=>⟨vs,.inl (.inl (R.wd.g _ _ (e _ _ h1))),by rw [h2.length]; exact Nat.le_refl _⟩
 yld := fun F G2 H2 σ ρ i x H3 e R hi y=>by
  obtain ⟨rfl,y⟩ := y
  obtain ⟨d,hd,hx⟩ := h2.getV (y vs (.inl (.inl (R.wd.g _ _ (e _ _ h1)))))
  exact ⟨G2,d,Ex.refl _,R,hd,hx.mono e⟩
theorem yl_tup {G : Hp} {a : Addr} {vs : List V} {ds : List D} (h1 : G a = some (.tup vs)) (h2 : Reps K G vs ds) : Yields K G (Itt K a) ds where
 go := fun F G2 H2 σ ρ i e R hi=>⟨vs,vs[i]'(by rw [h2.length]; exact hi),R.wd.g.sqT (e _ _ h1),by rw [List.getElem?_eq_getElem]⟩
 stop := fun F G2 H2 σ ρ e R=>⟨vs,R.wd.g.sqT (e _ _ h1),by rw [h2.length]; exact Nat.le_refl _⟩
 yld := fun F G2 H2 σ ρ i x H3 e R hi y=>by
  obtain ⟨rfl,y⟩ := y
  obtain ⟨d,hd,hx⟩ := h2.getV (y vs (R.wd.g.sqT (e _ _ h1)))
  exact ⟨G2,d,Ex.refl _,R,hd,hx.mono e⟩
theorem yl_range {G : Hp} {lo : Int} {n : Nat} : Yields K G (Itr lo n) ((List.range n).map fun (i : Nat)=>D.int (lo + (i : Int))) where
 go := fun F G2 H2 σ ρ i e R hi=>by
  show i < n
  simpa using hi
 stop := fun F G2 H2 σ ρ e R=>by
  show n <= _
  simp
 yld := fun F G2 H2 σ ρ i x H3 e R hi y=>by
  obtain ⟨rfl,rfl⟩ := y
  have hi' : i < n := by simpa using hi
  exact ⟨G2,.int (lo + i),Ex.refl _,R,by simp [hi'],.int _⟩
theorem yl_str {G : Hp} {x : Str} : Yields K G (Its x) (x.cps.toList.map fun c=>D.str ⟨#[c]⟩) where
 go := fun F G2 H2 σ ρ i e R hi=>by
  show i < x.cps.size
  simpa using hi
 stop := fun F G2 H2 σ ρ e R=>by
  show x.cps.size <= _
  simp
 yld := fun F G2 H2 σ ρ i v H3 e R hi y=>by
  obtain ⟨rfl,c,hc,rfl⟩ := y
  refine ⟨G2,.str ⟨#[c]⟩,Ex.refl _,R,?_,.str _⟩
  rw [List.getElem?_map,Array.getElem?_toList,hc]; rfl
theorem pi_or {X : Cx} {tg it : Expr} {w w' : TI} (h : PI X tg it w) (h' : PI X tg it w') : PI X tg it (fun σ H R=>w σ H R \/ w' σ H R) :=
 ⟨fun pins s σ H R I q=>q.elim (fun q=>h.run pins s σ H R I q) fun q=>h'.run pins s σ H R I q⟩
theorem ei_inl {w w' : TI} {Q : List D -> Env -> Prop} (h : EvI K w ρ Q) : EvI K (fun σ H R=>w σ H R \/ w' σ H R) ρ Q := fun F G H σ R R' k=>.inl (h F G H σ R R' k)
theorem ei_inr {w w' : TI} {Q : List D -> Env -> Prop} (h : EvI K w' ρ Q) : EvI K (fun σ H R=>w σ H R \/ w' σ H R) ρ Q := fun F G H σ R R' k=>.inr (h F G H σ R R' k)
theorem ei_list {Q : List D -> Env -> Prop} (h : EvW K te ρ fun d ρ1=>∃ ds,d = .lst ds /\ Q ds ρ1) : EvI K (iList K te) ρ Q := fun F G H σ R R' k =>
 h F G H σ R _ fun v d ρ1 G1 H1 e1 R1 hv q=>by
  obtain ⟨ds,rfl,q⟩ := q
  obtain ⟨a,vs,rfl,h1,h2⟩ := rep_lst hv
  exact ⟨a,rfl,⟨vs,.inl (.inl (R1.wd.g _ _ h1))⟩,k _ ds ρ1 G1 H1 e1 R1 (yl_list h1 h2) q⟩
theorem ei_tup {Q : List D -> Env -> Prop} (h : EvW K te ρ fun d ρ1=>∃ ds,d = .tup ds /\ Q ds ρ1) : EvI K (iTup K te) ρ Q := fun F G H σ R R' k =>
 h F G H σ R _ fun v d ρ1 G1 H1 e1 R1 hv q=>by
  obtain ⟨ds,rfl,q⟩ := q
  obtain ⟨a,vs,rfl,h1,h2⟩ := rep_tup hv
  exact ⟨a,rfl,⟨vs,R1.wd.g.sqT h1⟩,k _ ds ρ1 G1 H1 e1 R1 (yl_tup h1 h2) q⟩
theorem ei_str {Q : List D -> Env -> Prop} (h : EvW K te ρ fun d ρ1=>∃ x,d = .str x /\ Q (x.cps.toList.map fun c=>D.str ⟨#[c]⟩) ρ1) : EvI K (iStr te) ρ Q := fun F G H σ R R' k =>
 h F G H σ R _ fun v d ρ1 G1 H1 e1 R1 hv q=>by
  obtain ⟨x,rfl,q⟩ := q
  rw [rep_str hv]
  exact ⟨x,rfl,k _ _ ρ1 G1 H1 e1 R1 yl_str q⟩
theorem ei_range1 {Q : List D -> Env -> Prop} (h : EvA K ts ρ fun ds ρ1=>∃ j : Int,ds = [.int j] /\ -100000 <= j /\ j <= 100000 /\ Q ((List.range j.toNat).map fun (i : Nat)=>D.int (0 + (i : Int))) ρ1) : EvI K (iRng1 ts) ρ Q := fun F G H σ R R' k =>
 h F G H σ R _ fun vs ds ρ1 G1 H1 e1 R1 hv q=>by
  obtain ⟨j,rfl,h1,h2,q⟩ := q
  obtain ⟨v,rfl,hv1⟩ := hv.one
  rw [rep_int hv1]
  exact ⟨j,rfl,by omega,by omega,k _ _ ρ1 G1 H1 e1 R1 yl_range q⟩
theorem ws_for {wi : TI} {g : TG} {t : TS} {E : EndD} (h : EvI K wi ρ fun ds ρ1=>∃ P : Nat -> Env -> Prop,P 0 ρ1 ∧
   (∀ i d ρ',ds[i]? = some d -> P i ρ' -> GW K g d ρ' fun ρ2=>WS K t ρ2 { E with nx := P (i + 1),ct := P (i + 1),bk := E.nx }) /\ ∀ ρ',P ds.length ρ' -> E.nx ρ') : WS K (tFor wi g t) ρ E := fun F G H σ Dn R L =>
 h F G H σ R _ fun J ds ρ1 G1 H1 e1 R1 Y q=>by
  obtain ⟨P,p0,turn,fin⟩ := q
  refine ⟨fun i m σ' H'=>m + i = ds.length /\ ∃ ρ' G',Ex G1 G' /\ RE K F G' H' σ' ρ' /\ P i ρ',⟨ds.length,rfl,ρ1,G1,Ex.refl _,R1,p0⟩,?_⟩
  rintro i m σ' H' ⟨hm,ρ',G',e',R',p⟩
  by_cases hi : i < ds.length
  ·refine .inr ⟨Y.go F G' H' σ' ρ' i e' R' hi,fun σ2 H2=>∃ ρ2 G2,Ex G1 G2 /\ RE K F G2 H2 σ2 ρ2 /\ P (i + 1) ρ2,fun σ2 H2 z=>⟨m - 1,by omega,by omega,z⟩,fun x H2 y=>?_⟩
   obtain ⟨G2,d,e2,R2,hd,hx⟩ := Y.yld F G' H' σ' ρ' i x H2 e' R' hi y
   refine turn i d ρ' hd p F G2 H2 σ' x R2 hx _ fun σ3 ρ3 G3 H3 e3 R3 w3=>?_
   refine w3 F G3 H3 σ3 _ R3 ⟨fun σ4 ρ4 G4 H4 e4 R4 p4=>⟨ρ4,G4,((e'.trans e2).trans e3).trans e4,R4,p4⟩,fun v d σ4 ρ4 G4 H4 e4 R4 hv r4=>?_,fun σ4 ρ4 G4 H4 e4 R4 p4=>?_,fun σ4 ρ4 G4 H4 e4 R4 p4=>⟨ρ4,G4,((e'.trans e2).trans e3).trans e4,R4,p4⟩,fun p d σ4 ρ4 G4 H4 e4 R4=>L.ro p d σ4 ρ4 G4 H4 ((((e1.trans e').trans e2).trans e3).trans e4) R4,fun C f v d dx G4 H4 e4=>L.xx C f v d dx G4 H4 ((((e1.trans e').trans e2).trans e3).trans e4)⟩
   ·exact L.rt v d σ4 ρ4 G4 H4 ((((e1.trans e').trans e2).trans e3).trans e4) R4 hv r4
   ·exact L.nx σ4 ρ4 G4 H4 ((((e1.trans e').trans e2).trans e3).trans e4) R4 p4
  ·have ei : i = ds.length := by omega
   subst ei
   exact .inl ⟨Y.stop F G' H' σ' ρ' e' R',L.nx σ' ρ' G' H' (e1.trans e') R' (fin ρ' p)⟩
def wipeE (ρ : Env) : List Nat -> Env
 | []=>ρ
 | v :: vs=>(wipeE ρ vs).set v .un
theorem RE.wipe {F G H : Hp} {σ : L2.St} {ρ : Env} (R : RE K F G H σ ρ) : ∀ vs : List Nat,RE K F G H (L2.wipe σ vs) (wipeE ρ vs)
 | []=>R
 | v :: vs=>(RE.wipe R vs).setUn v
theorem wipe_at : ∀ {σ : L2.St} {vs : List Nat} {i : Nat},i ∉ vs -> (L2.wipe σ vs)[i]? = σ[i]?
 | _,[],_,_=>rfl
 | σ,v :: vs,i,h=>by
  show ((L2.wipe σ vs).set v none)[i]? = _
  rw [List.getElem?_set_ne (fun z=>h (by rw [z]; exact List.mem_cons_self)),wipe_at fun z=>h (List.mem_cons_of_mem _ z)]
theorem wipe_in : ∀ {σ : L2.St} {vs : List Nat} {i : Nat},i ∈ vs -> (L2.wipe σ vs)[i]? = if i < σ.length then some none else none
 | _,[],_,h=>by cases h
 | σ,v :: vs,i,h=>by
  show ((L2.wipe σ vs).set v none)[i]? = _
  by_cases e : v = i
  ·subst e
   rw [List.getElem?_set]
   simp [L2.wipe_length]
  ·rw [List.getElem?_set_ne e]
   rcases List.mem_cons.mp h with z | z
   ·exact absurd z.symm e
   ·exact wipe_in z
theorem wipeE_at : ∀ {ρ : Env} {vs : List Nat} {i : Nat},i ∉ vs -> (wipeE ρ vs)[i]? = ρ[i]?
 | _,[],_,_=>rfl
 | ρ,v :: vs,i,h=>by
  show ((wipeE ρ vs).set v Sl.un)[i]? = _
  rw [List.getElem?_set_ne (fun z=>h (by rw [z]; exact List.mem_cons_self)),wipeE_at fun z=>h (List.mem_cons_of_mem _ z)]
theorem wipe_eq {σ σ' : L2.St} {vs : List Nat} (hl : σ'.length = σ.length) (h : ∀ i,i ∉ vs -> σ'[i]? = σ[i]?) : L2.wipe σ' vs = L2.wipe σ vs := by
 apply List.ext_getElem?
 intro i
 by_cases m : i ∈ vs
 ·rw [wipe_in m,wipe_in m,hl]
 ·rw [wipe_at m,wipe_at m,h i m]
def Sl.isOwn : Sl -> Bool
 | .own _ _=>true
 | .drw _=>true
 | .two _ _ _ _=>true
 | .any _ _=>true
 | _=>false
def ownFree : Env -> List Nat -> Bool
 | _,[]=>true
 | ρ,v :: vs=>(match ρ[v]? with
  | some r=>!r.isOwn
  | none=>true) && ownFree ρ vs
theorem ownFree_at : ∀ {ρ : Env} {vs : List Nat},ownFree ρ vs = true -> ∀ (i : Nat) (r : Sl),ρ[i]? = some r -> r.isOwn = true -> i ∉ vs
 | _,[],_,_,_,_,_=>by simp
 | ρ,v :: vs,h,i,r,hr,ho=>fun m=>by
  unfold ownFree at h
  rw [Bool.and_eq_true] at h
  rcases List.mem_cons.mp m with e | m
  ·subst e
   rw [hr] at h
   simp [ho] at h
  ·exact ownFree_at h.2 i r hr ho m
theorem Slots.join {F G G' H H' : Hp} (e : Ex G G') {σ σ' : L2.St} {ρ ρ' : Env} (h : Slots K F G H σ ρ) (h' : Slots K F G' H' σ' ρ') (k : ∀ (i : Nat) (r : Sl),ρ[i]? = some r -> r.isOwn = true -> ρ'[i]? = some r /\ σ'[i]? = σ[i]?) : Slots K F G' H' σ ρ :=
 h.map fun i s r hs hr q=>by
  cases ho : r.isOwn with
  | true =>
   obtain ⟨z1,z2⟩ := k i r hr ho
   obtain ⟨s',h1,h2⟩ := h'.get z1
   rw [z2,hs] at h1
   cases h1
   exact h2
  | false=>exact q.step e fun a m=>by cases r <;> first | (cases ho; done) | (cases m; done)
section
variable {F G H : Hp} {σ : L2.St} {p : Addr} {o : HO}
theorem Slots.frm (hp : ∀ a,a ∈ ownA ρ -> a ≠ p) (h : Slots K F G H σ ρ) : Slots K (upd F p o) G H σ ρ :=
 h.map fun i s r _ hr q=>SlotOk.frm q fun a m=>by rw [upd_ne (hp a (adr_mem hr m))]; exact (q.own m).2.1
theorem Slots.unfrm {σ : L2.St} {ρ : Env} (hF : F p = none) (h : Slots K (upd F p o) G H σ ρ) : Slots K F G H σ ρ :=
 h.map fun i s r _ hr q=>SlotOk.frm q fun a m=>by
  have z := (q.own m).2.1
  by_cases e : a = p
  ·rw [e]; exact hF
  ·rw [upd_ne e] at z; exact z
theorem RE.frm (R : RE K F G H σ ρ) (hp : H p = some o) (hG : G p = none) (hO : p ∉ ownA ρ) (nt : NT o) : RE K (upd F p o) G H σ ρ := by
 refine ⟨⟨fun a u e=>?_,R.wd.g,fun a u e=>?_,fun a vs e=>?_,R.wd.tb.step (fun _ _ z=>z) fun t ht=>⟨rfl,(R.wd.tb t ht).1,?_⟩⟩,R.sl.frm (fun a m z=>hO (z ▸ m)),R.nd⟩
 ·by_cases z : a = p
  ·subst z; rw [upd_same] at e; rw [<- e]; exact hp
  ·rw [upd_ne z] at e; exact R.wd.f a u e
 ·by_cases z : a = p
  ·subst z; exact hG
  ·rw [upd_ne z] at e; exact R.wd.fg a u e
 ·by_cases z : a = p
  ·subst z; rw [upd_same] at e; cases e; exact nt.1 vs rfl
  ·rw [upd_ne z] at e; exact R.wd.ft a vs e
 ·rw [upd_ne (R.wd.tb.ne hp nt t ht)]
  exact (R.wd.tb t ht).2.1
theorem RE.unfrm (R : RE K (upd F p o) G H σ ρ) (hF : F p = none) : RE K F G H σ ρ /\ H p = some o /\ G p = none := by
 have e : upd F p o p = some o := upd_same
 refine ⟨⟨⟨fun a u q=>?_,R.wd.g,fun a u q=>?_,fun a vs q=>R.wd.ft a vs (by rw [upd_ne (ne_of_none q hF)]; exact q),R.wd.tb.step (fun _ _ z=>z) fun t ht=>⟨rfl,(R.wd.tb t ht).1,?_⟩⟩,R.sl.unfrm hF,R.nd⟩,R.wd.f p o e,R.wd.fg p o e⟩
 ·exact R.wd.f a u (by rw [upd_ne (ne_of_none q hF)]; exact q)
 ·exact R.wd.fg a u (by rw [upd_ne (ne_of_none q hF)]; exact q)
 ·have z := (R.wd.tb t ht).2.1
  by_cases ep : t.1 = p
  ·rw [ep]; exact hF
  ·rw [upd_ne ep] at z; exact z
theorem RE.aloneU {u' : HO} (R : RE K F G H σ ρ) (hG : G p = none) (hF : F p = none) (hO : p ∉ ownA ρ) (hu : H p = some u') (nt : NT u') : RE K F G (upd H p o) σ ρ := by
 refine ⟨⟨fun a u e=>?_,fun a u e=>?_,R.wd.fg,R.wd.ft,R.wd.tb.step (fun _ _ z=>z) fun t ht=>⟨upd_ne (R.wd.tb.ne hu nt t ht),(R.wd.tb t ht).1,(R.wd.tb t ht).2.1⟩⟩,R.sl.step (Ex.refl G) (fun a m=>⟨upd_ne fun z=>hO (z ▸ m),(R.sl.own m).1⟩),R.nd⟩
 ·rw [upd_ne (ne_of_none e hF)]; exact R.wd.f a u e
 ·rw [upd_ne (ne_of_none e hG)]; exact R.wd.g a u e
end
def GV (K : PySem.W.Frag) (g : TG) (vs : List Nat) (d : D) (ρ : Env) (Q : Env -> Prop) : Prop := ∀ F G H σ v,RE K F G H σ ρ -> Rep K G v d -> ∀ Q' : L2.St -> Hp -> Prop,
 (∀ σ' ρ',σ'.length = σ.length -> (∀ i,i ∉ vs -> σ'[i]? = σ[i]? /\ ρ'[i]? = ρ[i]?) -> RE K F G H σ' ρ' -> Q ρ' -> Q' σ' H) -> g v σ H Q'
def GVs (K : PySem.W.Frag) (g : TGs) (vs : List Nat) (ds : List D) (ρ : Env) (Q : Env -> Prop) : Prop := ∀ F G H σ ws,RE K F G H σ ρ -> Reps K G ws ds -> ∀ Q' : L2.St -> Hp -> Prop,
 (∀ σ' ρ',σ'.length = σ.length -> (∀ i,i ∉ vs -> σ'[i]? = σ[i]? /\ ρ'[i]? = ρ[i]?) -> RE K F G H σ' ρ' -> Q ρ' -> Q' σ' H) -> g ws σ H Q'
theorem gv_name {i : Nat} {vs : List Nat} {d : D} {Q : Env -> Prop} (hi : i ∈ vs) (h : Q (ρ.set i (.sh d))) : GV K (gName i) vs d ρ Q := fun F G H σ v R hv Q' k =>
 k _ _ (List.length_set) (fun j hj=>⟨List.getElem?_set_ne fun (z : i = j)=>hj (by rw [<- z]; exact hi),List.getElem?_set_ne fun (z : i = j)=>hj (by rw [<- z]; exact hi)⟩) (R.setSh hv i) h
theorem gvs_nil {vs : List Nat} {Q : Env -> Prop} (h : Q ρ) : GVs K gNil vs [] ρ Q := fun F G H σ ws R hv Q' k=>⟨hv.nil_inv,k σ ρ rfl (fun _ _=>⟨rfl,rfl⟩) R h⟩
theorem gvs_cons {g : TG} {gs : TGs} {vs : List Nat} {d : D} {ds : List D} {Q : Env -> Prop} (h : GV K g vs d ρ fun ρ1=>GVs K gs vs ds ρ1 Q) : GVs K (gCons g gs) vs (d :: ds) ρ Q := fun F G H σ ws R hv Q' k=>by
 obtain ⟨v,us,rfl,h1,h2⟩ := hv.cons_inv
 exact ⟨v,us,rfl,h F G H σ v R h1 _ fun σ1 ρ1 l1 s1 R1 q1=>q1 F G H σ1 us R1 h2 Q' fun σ2 ρ2 l2 s2 R2 q2=>k σ2 ρ2 (l2.trans l1) (fun i hi=>⟨(s2 i hi).1.trans (s1 i hi).1,(s2 i hi).2.trans (s1 i hi).2⟩) R2 q2⟩
theorem gv_tup {n : Nat} {gs : TGs} {vs : List Nat} {ds : List D} {Q : Env -> Prop} (hn : ds.length = n) (h : GVs K gs vs ds ρ Q) : GV K (gTup K n gs) vs (.tup ds) ρ Q := fun F G H σ v R hv Q' k=>by
 obtain ⟨a,us,rfl,h1,h2⟩ := rep_tup hv
 exact ⟨a,us,rfl,R.wd.g.sqT h1,by rw [h2.length]; exact hn,h F G H σ us R h2 Q' k⟩
theorem en_lc {wi : TI} {g : TG} {vs : List Nat} (h : EvI K wi ρ fun ds ρ1=>ownFree ρ1 vs = true /\ ds.length <= 90000 /\ ∃ P : Nat -> List D -> Prop,P 0 [] ∧
   (∀ i d acc,ds[i]? = some d -> P i acc -> GV K g vs d (wipeE ρ1 vs) fun ρ2=>EvT K tt ρ2 fun b ρ3=>ρ3 = ρ2 /\ if b = true then EvW K te ρ2 fun y ρ4=>ρ4 = ρ2 /\ P (i + 1) (acc ++ [y]) else P (i + 1) acc) ∧
   ∀ acc,P ds.length acc -> Q (.lst acc) ρ1) : EvN K (tLc wi g tt te vs) ρ Q := fun F G H σ R Q' k =>
 h F G H σ R _ fun J ds ρ1 G1 H1 e1 R1 Y q=>fun Dd hD=>by
  obtain ⟨hv0,hlen,P,p0,turn,fin⟩ := q
  have hv := ownFree_at hv0
  have hF0 : F Dd = none := R1.wd.f.none hD
  have hO : Dd ∉ ownA ρ1 := ownA_fresh R1 hD
  refine ⟨fun i m H'=>m + i = ds.length /\ ∃ acc accV G',Ex G1 G' /\ RE K F G' H' σ ρ1 /\ G' Dd = none /\ H' Dd = some (.lst accV) /\ Reps K G' accV acc /\ acc.length <= i /\ P i acc,
   ⟨ds.length,rfl,[],[],G1,Ex.refl _,R1.alone hD,R1.wd.g.none hD,upd_same,.nil,Nat.le_refl _,p0⟩,?_⟩
  rintro i m H' ⟨hm,acc,accV,G',e',R',hG,hH,ra,hl,p⟩
  have Rf := R'.frm hH hG hO ⟨fun _ z=>(nomatch z),fun _ z=>(nomatch z)⟩
  by_cases hi : i < ds.length
  ·refine .inr ⟨Y.go _ G' H' σ ρ1 i e' Rf hi,fun H2=>∃ acc accV G2,Ex G1 G2 /\ RE K F G2 H2 σ ρ1 /\ G2 Dd = none /\ H2 Dd = some (.lst accV) /\ Reps K G2 accV acc /\ acc.length <= i + 1 /\ P (i + 1) acc,fun H2 z=>⟨m - 1,by omega,by omega,z⟩,fun x H2 y=>?_⟩
   obtain ⟨G2,d,e2,R2,hd,hx⟩ := Y.yld _ G' H' σ ρ1 i x H2 e' Rf hi y
   refine turn i d acc hd p _ G2 H2 _ x (R2.wipe vs) hx _ fun σ2 ρ2 l2 s2 R3 w3=>?_
   refine ⟨?_,w3 _ G2 H2 σ2 R3 _ fun b ρ3 G4 H4 e4 R4 w4=>?_⟩
   ·have e0 : L2.wipe (L2.wipe σ vs) vs = L2.wipe σ vs := wipe_eq (L2.wipe_length σ vs) fun i hi=>wipe_at hi
    rw [wipe_eq l2 fun i hi=>(s2 i hi).1,e0]
   obtain ⟨rfl,w4⟩ := w4
   have back : ∀ {G5 H5 : Hp},Ex G2 G5 -> RE K (upd F Dd (.lst accV)) G5 H5 σ2 ρ3 -> RE K F G5 H5 σ ρ1 /\ H5 Dd = some (.lst accV) /\ G5 Dd = none := fun {G5 H5} e5 R5=>by
    obtain ⟨R6,h6,g6⟩ := R5.unfrm hF0
    refine ⟨⟨R6.wd,Slots.join (e2.trans e5) R'.sl R6.sl (fun j r hr ho=>?_),R'.nd⟩,h6,g6⟩
    have hj := hv j r hr ho
    rw [(s2 j hj).1,(s2 j hj).2,wipe_at hj,wipeE_at hj]
    exact ⟨hr,rfl⟩
   cases b with
   | true =>
    refine w4 _ G4 H4 σ2 R4 _ fun v yv ρ5 G5 H5 e5 R5 hvy w5=>?_
    obtain ⟨rfl,w5⟩ := w5
    obtain ⟨R6,h6,g6⟩ := back (e4.trans e5) R5
    refine ⟨accV,h6,by rw [ra.length]; exact bigl (by omega),acc ++ [yv],accV ++ [v],G5,((e'.trans e2).trans e4).trans e5,R6.aloneU g6 hF0 hO h6 ⟨fun _ z=>(nomatch z),fun _ z=>(nomatch z)⟩,g6,upd_same,(ra.mono ((e2.trans e4).trans e5)).append (.cons hvy .nil),by simp; omega,w5⟩
   | false =>
    obtain ⟨R6,h6,g6⟩ := back e4 R4
    exact ⟨acc,accV,G4,(e'.trans e2).trans e4,R6,g6,h6,ra.mono (e2.trans e4),by omega,w4⟩
  ·have ei : i = ds.length := by omega
   subst ei
   exact .inl ⟨Y.stop _ G' H' σ ρ1 e' R',k Dd (.lst acc) ρ1 G' H' (e1.trans e') R' hG hF0 hO ⟨accV,hH,ra⟩ (fin acc p)⟩
end
end DL
namespace DL
open PySem PySem.Spec PyProof.Rows L2
variable [TabL]
structure FnB (P : Program) (w : World) (K : PySem.W.Frag) (mg : Str -> Option Value) (base : Heap) (k : Nat) (x : Str) (ps : List Str) (sp : Sp) : Prop where
 ex : ∃ fd,FnOk P w K mg base CX0 k (He.ga K x) fd ps sp /\ Binds K fd ps []
 kp : PySem.W.keepIn K (.ref (He.ga K x)) = true
 at_ : mg x = some (.ref (He.ga K x))
theorem FnB.mono {P : Program} {w : World} {K : PySem.W.Frag} {mg : Str -> Option Value} {base : Heap} {j k : Nat} {x : Str} {ps : List Str} {sp : Sp} (F : FnB P w K mg base j x ps sp) (h : j <= k) : FnB P w K mg base k x ps sp := by
 obtain ⟨fd,h1,h2⟩ := F.ex
 exact ⟨⟨fd,h1.mono h,h2⟩,F.kp,F.at_⟩
theorem pe_callF {X : Cx} {k : Nat} {x : Str} {ps : List Str} {sp : Sp} {e : Expr} {es : List Expr} {t : TA} {p pos : Pos} (F : FnB X.prog X.w X.K X.mg X.base k x ps sp) (hr : Room k X.A) (ha : PA X (e :: es) t) (hg : Gl X x := by rfl)
  (he : starEach (e :: es) X.env = (false,eval e X.env) :: starEach es X.env := by rfl) (hpl : (backTo pos (starEach es X.env)).any (·.1) = false := by rfl) (hd : (x == ("__debug__" : Str)) = false := by decide) : PE X (.Call (.Name x p) (e :: es) [] pos) (tCall sp [] E0 t) := by
 obtain ⟨fd,h1,h2⟩ := F.ex
 exact pe_call h1 hr hg F.at_ F.kp h2 .nil pass0 ha hd he hpl
theorem slots_start {K : PySem.W.Frag} {F G H : Hp} : ∀ {vs : List V} {ds : List D} (n : Nat),Reps K G vs ds -> Slots K F G H (vs.map some ++ List.replicate n none) (ds.map Sl.sh ++ List.replicate n Sl.un)
 | [],[],0,_=>trivial
 | [],[],n + 1,h=>⟨trivial,slots_start (vs := []) (ds := []) n h⟩
 | [],_ :: _,_,h=>by cases h
 | _ :: _,[],_,h=>by cases h
 | _ :: _,_ :: _,n,h=>by
  cases h with | cons a b=>exact ⟨⟨_,rfl,a⟩,slots_start n b⟩
theorem ownA_un : ∀ n : Nat,ownA (List.replicate n Sl.un) = []
 | 0=>rfl
 | n + 1=>ownA_un n
theorem own_start : ∀ (ds : List D) (n : Nat),ownA (ds.map Sl.sh ++ List.replicate n Sl.un) = []
 | [],n=>ownA_un n
 | d :: ds,n=>own_start ds n
abbrev envP (N : List Str) (ds : List D) : Env := ds.map Sl.sh ++ List.replicate (N.length - ds.length) Sl.un
theorem fn_P {P : Program} {w : World} {K : PySem.W.Frag} {mg : Str -> Option Value} {base : Heap} {x qual : Str} {params : Arguments} {body : List Stmt} {scope : Scope} {fd : FuncData} {N ps : List Str} {k : Nat} {T : List D -> (D -> Prop) -> Prop}
  (F : FunD K x qual params body scope [] [] (He.ga K x) fd) (at_ : mg x = some (.ref (He.ga K x)))
  (bi : ∀ (kV doc pm : Value) (an : Option Addr) (cdv ct : Value) (us : List Value),us.length = ps.length -> bindArgs (PySem.W.fnOf x qual params body scope .none kV doc pm an cdv ct) ⟨us,[]⟩ = pure (ps.zip us))
  (S : FnScope N ps scope) (hl : ∀ ds Qd,T ds Qd -> ds.length = ps.length)
  (hb : ∀ (cdv : Value) (A : Around) (outer : List PySem.Env) (s : Shared) (H : Hp) (E : XK),Room k (A.deeper (envOfC qual scope s.heap.objs.size (He.ga K x) cdv)) ->
   ∃ t,PSs (cxOf CX0 P w K mg base N qual scope (He.ga K x) cdv A outer s H E).nox body t /\ ∀ ds Qd,T ds Qd -> WS K t (envP N ds) { nx := fun _=>Qd .non,rt := fun d _=>Qd d }) :
  FnB P w K mg base (k + 1) x ps (spP K T) := by
 refine ⟨⟨fd,F.ok S (fun vs H Q E h=>?_) (fun cdv A outer s H vs Q E hr h=>?_),F.bindsN bi⟩,F.kp,at_⟩
 ·obtain ⟨_,_,ds,Qd,_,r,t,_⟩ := h
  rw [r.length]; exact hl ds Qd t
 ·obtain ⟨F',G,ds,Qd,W,r,tt,post⟩ := h
  obtain ⟨t,hd,hw⟩ := hb cdv A outer s H E hr
  refine ⟨t,PSs.nox hd,?_⟩
  have R : RE K F' G H (L2.start N vs) (envP N ds) := by
   unfold L2.start
   refine ⟨W,by rw [r.length]; exact slots_start _ r,by rw [own_start]; exact List.nodup_nil⟩
  refine hw ds Qd tt F' G H (L2.start N vs) _ R ⟨fun σ' ρ' G' H' e R' q=>?_,fun v d σ' ρ' G' H' e R' hv q=>?_,fun σ' ρ' G' H' e R' q=>q.elim,fun σ' ρ' G' H' e R' q=>q.elim,fun p d σ' ρ' G' H' e R' _ _ _ _ q=>q.elim,fun C f v d dx G' H' _ _ _ _ _ _ q=>q.elim⟩
  ·exact post .non .non G' H' e R'.wd .non q
  ·exact post v d G' H' e R'.wd hv q
theorem fn_N {P : Program} {w : World} {K : PySem.W.Frag} {mg : Str -> Option Value} {base : Heap} {x qual : Str} {params : Arguments} {body : List Stmt} {scope : Scope} {fd : FuncData} {N ps : List Str} {k : Nat} {T : List D -> (D -> Prop) -> Prop}
  (F : FunD K x qual params body scope [] [] (He.ga K x) fd) (at_ : mg x = some (.ref (He.ga K x)))
  (bi : ∀ (kV doc pm : Value) (an : Option Addr) (cdv ct : Value) (us : List Value),us.length = ps.length -> bindArgs (PySem.W.fnOf x qual params body scope .none kV doc pm an cdv ct) ⟨us,[]⟩ = pure (ps.zip us))
  (S : FnScope N ps scope) (hl : ∀ ds Qd,T ds Qd -> ds.length = ps.length)
  (hb : ∀ (cdv : Value) (A : Around) (outer : List PySem.Env) (s : Shared) (H : Hp) (E : XK),Room k (A.deeper (envOfC qual scope s.heap.objs.size (He.ga K x) cdv)) ->
   ∃ t,PSs (cxOf CX0 P w K mg base N qual scope (He.ga K x) cdv A outer s H E).nox body t /\ ∀ ds Qd,T ds Qd -> WS K t (envP N ds) { nx := fun _=>False,rt := fun _ _=>False,ro := fun d _=>Qd d }) :
  FnB P w K mg base (k + 1) x ps (spN K T) := by
 refine ⟨⟨fd,F.ok S (fun vs H Q E h=>?_) (fun cdv A outer s H vs Q E hr h=>?_),F.bindsN bi⟩,F.kp,at_⟩
 ·obtain ⟨_,_,ds,Qd,_,r,t,_⟩ := h
  rw [r.length]; exact hl ds Qd t
 ·obtain ⟨F',G,ds,Qd,W,r,tt,post⟩ := h
  obtain ⟨t,hd,hw⟩ := hb cdv A outer s H E hr
  refine ⟨t,PSs.nox hd,?_⟩
  have R : RE K F' G H (L2.start N vs) (envP N ds) := by
   unfold L2.start
   refine ⟨W,by rw [r.length]; exact slots_start _ r,by rw [own_start]; exact List.nodup_nil⟩
  refine hw ds Qd tt F' G H (L2.start N vs) _ R ⟨fun σ' ρ' G' H' e R' q=>q.elim,fun v d σ' ρ' G' H' e R' hv q=>q.elim,fun σ' ρ' G' H' e R' q=>q.elim,fun σ' ρ' G' H' e R' q=>q.elim,fun p d σ' ρ' G' H' e R' hG hF hO o q=>?_,fun C f v d dx G' H' _ _ _ _ _ _ q=>q.elim⟩
  exact post p d G' H' e R'.wd hG hF o q
end DL
namespace DL
open PySem PySem.Spec PyProof.Rows L2
variable [TabL]
set_option maxHeartbeats 1000000 in
theorem meets_enum1 {v : Value} {ob : Obj} {HB : Heap -> Prop} (B : Begins v ob HB) :
  Meets (Builtin.«enumerate.__new__» ⟨[.type "enumerate",v],[]⟩)
   (fun _ R s=>HB s.heap /\ R (.ok (.ret (.ref (s.heap.push ob).objs.size)))
    { s with heap := (s.heap.push ob).push { cls := .type "enumerate",data := .fields #[.none,.bool false,.ref s.heap.objs.size,rawInt 0,.none,.none] } }) := by
 refine .of_wp fun prog w A R s h=>?_
 obtain ⟨hp,gs,dr,tk,os⟩ := s
 obtain ⟨hb,hR⟩ := h
 have sube := sub_enumerate
 have begin1 : ∀ {A' : Around} {E' : Value -> Shared -> Prop} {Q' : Value -> Shared -> Prop},Q' (.ref hp.objs.size) ⟨hp.push ob,gs,dr,tk,os⟩ -> wpAny (model prog w) A' (pyIter v) Q' E' ⟨hp,gs,dr,tk,os⟩ := fun z=>B.iter prog w _ _ ⟨hp,gs,dr,tk,os⟩ _ hb z
 wp_walk using begin1
 refine wpAny_stack_any fun stk=>wpAny_pure ?_
 split
 ·rename_i cc _ _ _ _ _
  cases (cc == Value.type "enumerate") <;> (wp_walk using begin1; exact ⟨_,rfl,hR⟩)
 ·wp_walk using begin1
  exact ⟨_,rfl,hR⟩
theorem call_enum1 {prog : Program} {w : World} {A : Around} {E : Value -> Shared -> Prop} {s : Shared} {v : Value} {ob : Obj} {HB : Heap -> Prop} {Q : Value -> Shared -> Prop} (B : Begins v ob HB) (hb : HB s.heap)
  (h : ∀ h',IsEnum h' (s.heap.objs.size + 1) s.heap.objs.size 0 .none -> h'.get? s.heap.objs.size = some ob -> (∀ b o,s.heap.get? b = some o -> h'.get? b = some o) -> Q (.ref (s.heap.objs.size + 1)) { s with heap := h' }) :
  wpAny (model prog w) A (call (.type "enumerate") [v]) Q E s := by
 refine callType_new F.called_enumerate (by decide) (F.typeCall_enumerate_1 _) (F.newCall_enumerate_1 _) (fun obj=>F.args_object_init_2 obj _) F.entry_enumerate_new (meets_enum1 B) ⟨hb,?_⟩
 have sz : (s.heap.push ob).objs.size = s.heap.objs.size + 1 := Heap.size_push ..
 have at0 := Heap.get?_push_size (s.heap.push ob) (o := { cls := .type "enumerate",data := .fields #[.none,.bool false,.ref s.heap.objs.size,rawInt 0,.none,.none] }) rfl
 rw [sz] at at0
 show _ /\ _
 rw [sz]
 exact ⟨⟨_,at0,rfl⟩,h _ at0 (Heap.get?_push_of_some _ (Heap.get?_push_size _ B.free)) fun b o x=>Heap.get?_push_of_some _ (Heap.get?_push_of_some _ x)⟩
def IteT (K : PySem.W.Frag) (a : Addr) : It where
 go := fun i H=>∃ (xs : List V) (x : V),SqT K H a xs /\ xs[i]? = some x
 yld := fun i H v H'=>∃ T x,v = .ref T /\ H T = none /\ H' = upd H T (.tup [.int (i : Nat),x]) /\ ∀ xs,SqT K H a xs -> xs[i]? = some x
 stop := fun i H=>∃ xs : List V,SqT K H a xs /\ xs.length = i
theorem turn_enumT {P : Program} {w : World} {K : PySem.W.Frag} {elts : List Expr} {kk : Nat} {tpos : Pos} (a e it : Addr) (hai : a ≠ it) (hae : e ≠ a) :
  Turn P w K (.Tuple elts kk tpos) (IteT K a) [e,it] e (fun i h=>(∃ old,IsEnum h e it ((i : Nat) : Int) old) /\ h.IsTupleIter it a i /\ e ≠ it) where
 mem := by simp
 obj := fun i h st b hb=>by
  obtain ⟨⟨old,he⟩,⟨o,ho,hc,hd⟩,_⟩ := st
  rcases (show b = e \/ b = it by simpa using hb) with rfl | rfl
  ·exact ⟨_,he,fun v q=>nomatch q⟩
  ·exact ⟨o,ho,fun v q=>by rw [hd] at q; cases q⟩
 keep := fun i h h' st k=>by
  obtain ⟨⟨old,he⟩,hi,hne⟩ := st
  exact ⟨⟨old,k e (by simp) _ he⟩,hi.at fun o q=>k it (by simp) o q,hne⟩
 item := by
  intro X hP hw hK hc i pins s σ H E I hf st hg
  subst hP hw hK
  obtain ⟨⟨old,he⟩,hit,hne⟩ := st
  obtain ⟨xs,x,hq,hx⟩ := hg
  obtain ⟨its,rv,tp,hz⟩ := I.tuple hq
  obtain ⟨u,hu,ru⟩ := rv.get hx
  have hel : e < s.heap.objs.size := Heap.lt_size he
  have hil : it < s.heap.objs.size := by obtain ⟨_,q,_⟩ := hit; exact Heap.lt_size q
  have hh : X.A.in1.handled = none := by simpa using I.ok.hd hc
  have hlt : i < its.toArray.size := by
   have := (List.getElem?_eq_some_iff.mp hu).1
   simpa using this
  have hef : e ∉ [it,a] := fun m=>by
   rcases (show e = it \/ e = a by simpa using m) with z | z
   ·exact hne z
   ·exact hae z
  refine wpAny_pyNext_enum_itemD (Draws.tuple (prog := X.prog) (w := X.w) hh it a hai its.toArray) he ⟨hit,tp⟩ hlt hne hef fun y h' tk hy ho hst hT hsz hk=>?_
  have ey : y = u := by
   have h1 : its.toArray[i]? = some u := by simpa using hu
   exact Option.some.inj (hy.symm.trans h1)
  subst ey
  refine ⟨_,rfl,wpAny_letOwnedTupleGo_enum (s := { s with heap := h',toks := tk + 1 }) ho fun h'' he' sb=>?_⟩
  have hT2 : h''.get? s.heap.objs.size = some { cls := .type "tuple",data := .seq #[.int i tk,y] } := (sb.2 _ (Nat.ne_of_gt hel)).trans hT
  have new : ObjOk X.prog X.w (upd H s.heap.objs.size (.tup [.int (i : Nat),x])) h'' s.heap.objs.size (.tup [.int (i : Nat),x]) := by
   refine ⟨by show 2 <= sizeLine; decide,[.int i tk,y],.cons ⟨_,rfl⟩ (.cons ru .nil),⟨_,hT2,rfl,_,rfl⟩⟩
  have I1 : Inv X pins σ (upd H s.heap.objs.size (.tup [.int (i : Nat),x])) { s with heap := h'',toks := tk + 1 } := by
   refine I.turnedNew (ch := [e,it]) (fun b ob hb q=>?_) hf (Nat.le_refl _) new
   exact (sb.2 b fun z=>hb (by simp [z])).trans (hk b ob (fun z=>hb (by simp [z])) (fun z=>hb (by simp [z])) q)
  refine ⟨.ref s.heap.objs.size,_,I1,rfl,⟨_,x,rfl,I.hok.fresh (Nat.le_refl _),rfl,fun ys hy=>by rw [I.tuple_inj hy hq]; exact hx⟩,⟨⟨y,?_⟩,hst.1.at fun o q=>(sb.2 it (Ne.symm hne)).trans q,hne⟩,fun b hb=>?_⟩
  ·rw [show ((i + 1 : Nat) : Int) = (i : Int) + 1 by omega]
   exact he'
  ·have hb' : b < s.heap.objs.size := by
    rcases (show b = e \/ b = it by simpa using hb) with z | z
    ·rw [z]; exact hel
    ·rw [z]; exact hil
   rw [upd_ne (Nat.ne_of_lt hb')]
   exact (hf b hb).1
 done := by
  intro X hP hw hK hc i pins s σ H E I hf st hg
  subst hP hw hK
  obtain ⟨⟨old,he⟩,hit,hne⟩ := st
  obtain ⟨xs,hq,hx⟩ := hg
  obtain ⟨its,rv,tp,hz⟩ := I.tuple hq
  obtain ⟨f0,f1,f2,f3,f4,f5⟩ := hf it (by simp)
  have hh : X.A.in1.handled = none := by simpa using I.ok.hd hc
  have hl := rv.length
  have ei : i = its.toArray.size := by simp; omega
  subst ei
  refine wpAny_pyNext_enum_endD (Draws.tuple (prog := X.prog) (w := X.w) hh it a hai its.toArray) he ⟨hit,tp⟩ fun h' eb=>?_
  exact ⟨rfl,I.turned (t' := s.toks) (fun b o hb q=>eb b o hb q) f0 f1 f3 f4 f5⟩
 self := fun A i s Q E st h=>by
  obtain ⟨⟨_,he⟩,_⟩ := st
  exact wpAny_pyIter_enum he h
def iEnumT (K : PySem.W.Frag) (ta : TA) : TI := fun σ H R=>ta σ H fun vs H1=>∃ a xs,vs = [.ref a] /\ SqT K H1 a xs /\ R (IteT K a) H1
theorem pi_enumT {X : Cx} {e : Expr} {ta : TA} {p pos tpos : Pos} {elts : List Expr} {kk : Nat} (hg : Gl X "enumerate") (hm : X.mg "enumerate" = none) (ha : PA X [e] ta) (hs : starEach [e] X.env = [(false,eval e X.env)] := by rfl) :
  PI X (.Tuple elts kk tpos) (.Call (.Name "enumerate" p) [e] [] pos) (iEnumT X.K ta) := by
 refine ⟨fun pins s σ H R I h=>?_⟩
 refine Call_ (ld_blt I hg hm boot_enumerate (PyProof.Rows.callWith_type1 (thn (ha.run pos pins s σ H _ I h) fun us s1 z=>?_) hs rfl))
 obtain ⟨vs,H1,I1,r1,a,xs,rfl,hq,q⟩ := z
 obtain ⟨u,rfl,ru⟩ := vals1 r1
 cases ru
 obtain ⟨its,rv,tp,hz⟩ := I1.tuple hq
 have ha1 : a < s1.heap.objs.size := by obtain ⟨o,h1,_⟩ := tp; exact Heap.lt_size h1
 refine call_enum1 (begins_tuple a its.toArray) tp fun h' he hit hk=>wpAny_pyIter_enum he ?_
 have I2 : Inv X pins σ H1 { s1 with heap := h' } := I1.kept (t' := s1.toks) hk
 refine ⟨s1.heap.objs.size + 1,[s1.heap.objs.size + 1,s1.heap.objs.size],_,_,H1,rfl,I2,turn_enumT a (s1.heap.objs.size + 1) s1.heap.objs.size (Nat.ne_of_lt ha1) (Nat.ne_of_gt (Nat.lt_succ_of_lt ha1)),⟨⟨.none,he⟩,⟨_,hit,rfl,rfl⟩,Nat.succ_ne_self _⟩,fun b hb=>?_,q⟩
 have hle : s1.heap.objs.size <= b := by
  rcases (show b = s1.heap.objs.size + 1 \/ b = s1.heap.objs.size by simpa using hb) with z | z
  ·rw [z]; exact Nat.le_add_right _ _
  ·rw [z]; exact Nat.le_refl _
 exact I1.fpOk hle (I1.hok.fresh hle)
theorem pi_enumU {X : Cx} {e : Expr} {ta : TA} {p pos tpos : Pos} {elts : List Expr} {kk : Nat} (hg : Gl X "enumerate") (hm : X.mg "enumerate" = none) (ha : PA X [e] ta) (hs : starEach [e] X.env = [(false,eval e X.env)] := by rfl) :
  PI X (.Tuple elts kk tpos) (.Call (.Name "enumerate" p) [e] [] pos) (fun σ H R=>iEnum X.K ta σ H R \/ iEnumT X.K ta σ H R) := pi_or (pi_enum hg hm ha hs) (pi_enumT hg hm ha hs)
section
variable {K : PySem.W.Frag} {ts : TA} {ρ : Env} {Q : List D -> Env -> Prop}
def enumD (ds : List D) : List D := (List.range ds.length).zipWith (fun i d=>D.tup [.int (i : Nat),d]) ds
theorem enumD_len (ds : List D) : (enumD ds).length = ds.length := by simp [enumD]
theorem enumD_at {ds : List D} {i : Nat} {d : D} (h : ds[i]? = some d) : (enumD ds)[i]? = some (.tup [.int (i : Nat),d]) := by
 have hl := (List.getElem?_eq_some_iff.mp h).1
 unfold enumD
 rw [List.getElem?_zipWith,h]
 simp [List.getElem?_range hl]
theorem pair_new {F G H : Hp} {σ : L2.St} {ρ : Env} (R : RE K F G H σ ρ) {T : Addr} (hT : H T = none) {x y : V} {d e : D} (hx : Rep K G x d) (hy : Rep K G y e) :
  ∃ G3,Ex G G3 /\ RE K F G3 (upd H T (.tup [x,y])) σ ρ /\ Rep K G3 (.ref T) (.tup [d,e]) := by
 have e3 : Ex G (upd G T (.tup [x,y])) := Ex.new (R.wd.g.none hT)
 exact ⟨_,e3,R.new hT,.tup upd_same (.cons (hx.mono e3) (.cons (hy.mono e3) .nil))⟩
theorem yl_enumL {G : Hp} {a : Addr} {vs : List V} {ds : List D} (h1 : G a = some (.lst vs)) (h2 : Reps K G vs ds) : Yields K G (Ite K a) (enumD ds) where
 go := fun F G2 H2 σ ρ i e R hi=>⟨vs,vs[i]'(by rw [h2.length]; simpa [enumD_len] using hi),.inl (.inl (R.wd.g _ _ (e _ _ h1))),by rw [List.getElem?_eq_getElem]⟩
 stop := fun F G2 H2 σ ρ e R=>⟨vs,.inl (.inl (R.wd.g _ _ (e _ _ h1))),by rw [h2.length,enumD_len]; exact Nat.le_refl _⟩
 yld := fun F G2 H2 σ ρ i x H3 e R hi y=>by
  obtain ⟨T,z,rfl,hT,rfl,y⟩ := y
  obtain ⟨d,hd,hx⟩ := h2.getV (y vs (.inl (.inl (R.wd.g _ _ (e _ _ h1)))))
  obtain ⟨G3,e3,R3,h3⟩ := pair_new R hT (.int ((i : Nat) : Int)) (hx.mono e)
  exact ⟨G3,_,e3,R3,enumD_at hd,h3⟩
theorem yl_enumT {G : Hp} {a : Addr} {vs : List V} {ds : List D} (h1 : G a = some (.tup vs)) (h2 : Reps K G vs ds) : Yields K G (IteT K a) (enumD ds) where
 go := fun F G2 H2 σ ρ i e R hi=>⟨vs,vs[i]'(by rw [h2.length]; simpa [enumD_len] using hi),R.wd.g.sqT (e _ _ h1),by rw [List.getElem?_eq_getElem]⟩
 stop := fun F G2 H2 σ ρ e R=>⟨vs,R.wd.g.sqT (e _ _ h1),by rw [h2.length,enumD_len]⟩
 yld := fun F G2 H2 σ ρ i x H3 e R hi y=>by
  obtain ⟨T,z,rfl,hT,rfl,y⟩ := y
  obtain ⟨d,hd,hx⟩ := h2.getV (y vs (R.wd.g.sqT (e _ _ h1)))
  obtain ⟨G3,e3,R3,h3⟩ := pair_new R hT (.int ((i : Nat) : Int)) (hx.mono e)
  exact ⟨G3,_,e3,R3,enumD_at hd,h3⟩
theorem ei_enumL (h : EvA K ts ρ fun xs ρ1=>∃ ds,xs = [.lst ds] /\ Q (enumD ds) ρ1) : EvI K (fun σ H R=>iEnum K ts σ H R \/ iEnumT K ts σ H R) ρ Q := fun F G H σ R R' k =>
 .inl (h F G H σ R _ fun vs xs ρ1 G1 H1 e1 R1 hv q=>by
  obtain ⟨ds,rfl,q⟩ := q
  obtain ⟨v,rfl,hv1⟩ := hv.one
  obtain ⟨a,ws,rfl,h1,h2⟩ := rep_lst hv1
  exact ⟨a,ws,rfl,.inl (.inl (R1.wd.g _ _ h1)),k _ _ ρ1 G1 H1 e1 R1 (yl_enumL h1 h2) q⟩)
theorem ei_enumT (h : EvA K ts ρ fun xs ρ1=>∃ ds,xs = [.tup ds] /\ Q (enumD ds) ρ1) : EvI K (fun σ H R=>iEnum K ts σ H R \/ iEnumT K ts σ H R) ρ Q := fun F G H σ R R' k =>
 .inr (h F G H σ R _ fun vs xs ρ1 G1 H1 e1 R1 hv q=>by
  obtain ⟨ds,rfl,q⟩ := q
  obtain ⟨v,rfl,hv1⟩ := hv.one
  obtain ⟨a,ws,rfl,h1,h2⟩ := rep_tup hv1
  exact ⟨a,ws,rfl,R1.wd.g.sqT h1,k _ _ ρ1 G1 H1 e1 R1 (yl_enumT h1 h2) q⟩)
end
end DL
namespace DL
open PySem PySem.Spec PyProof.Rows L2
variable [TabL]
section
variable {K : PySem.W.Frag} {te ta tb tc td ty : TE} {tt tu : TT} {ts : TA} {ρ : Env} {Q : D -> Env -> Prop}
def kD : Key -> D
 | .inl i=>.int i
 | .inr x=>.str x
theorem rep_kD {H : Hp} {v : V} {k : Key} (h : Rep K H v (kD k)) : v = kV k := by
 cases k with
 | inl i=>exact rep_int h
 | inr x=>exact rep_str h
def dget {κ : Type} [DecidableEq κ] (ps : List (κ × D)) (k : κ) : Option D := (ps.find? fun kv=>decide (kv.1 = k)).map (·.2)
theorem dk_look {κ : Type} [DecidableEq κ] {H : Hp} (k : κ) : ∀ {kvs : List (κ × V)} {ps : List (κ × D)},kvs.map (·.1) = ps.map (·.1) -> Reps K H (kvs.map (·.2)) (ps.map (·.2)) ->
  (valV kvs k = none /\ dget ps k = none) \/ ∃ v d,valV kvs k = some v /\ dget ps k = some d /\ Rep K H v d
 | [],[],_,_=>.inl ⟨rfl,rfl⟩
 | [],_ :: _,e,_=>by simp at e
 | _ :: _,[],e,_=>by simp at e
 | kv :: kvs,p :: ps,e,r=>by
  simp only [List.map_cons,List.cons.injEq] at e
  cases r with
  | cons r1 r2 =>
   by_cases hk : kv.1 = k
   ·refine .inr ⟨kv.2,p.2,valV_pos hk,?_,r1⟩
    have hp : p.1 = k := e.1 ▸ hk
    simp [dget,List.find?_cons,hp]
   ·have hp : ¬ p.1 = k := fun z=>hk (e.1.trans z)
    have e1 : valV (kv :: kvs) k = valV kvs k := by simp [valV,List.find?_cons,hk]
    have e2 : dget (p :: ps) k = dget ps k := by simp [dget,List.find?_cons,hp]
    rw [e1,e2]
    exact dk_look k e.2 r2
theorem fs_look {H : Hp} (f : Str) : ∀ {fs : List (Str × V)} {ps : List (Str × D)},fs.map (·.1) = ps.map (·.1) -> Reps K H (fs.map (·.2)) (ps.map (·.2)) -> ∀ {d : D},ps.lookup f = some d -> ∃ v,fs.lookup f = some v /\ Rep K H v d
 | [],[],_,_,d,e=>by simp at e
 | [],_ :: _,e,_,_,_=>by simp at e
 | _ :: _,[],e,_,_,_=>by simp at e
 | (g,v) :: fs,(g',x) :: ps,e,r,d,h=>by
  simp only [List.map_cons,List.cons.injEq] at e
  obtain ⟨e0,e1⟩ := e
  subst e0
  cases r with
  | cons r1 r2 =>
   by_cases z : f == g
   ·rw [List.lookup_cons,z] at h ⊢
    exact ⟨v,rfl,by cases h; exact r1⟩
   ·have z' : (f == g) = false := by simpa using z
    rw [List.lookup_cons,z'] at h ⊢
    exact fs_look f e1 r2 h
theorem ew_fld {f : Str} (h : EvW K ta ρ fun x ρ1=>∃ C ps d,x = .ins C ps /\ Cls K (He.ga K C) /\ NoAttr K (He.ga K C) f /\ ps.lookup f = some d /\ Q d ρ1) : EvW K (tFld K ta f) ρ Q := fun F G H σ R Q' k =>
 h F G H σ R _ fun v x ρ1 G1 H1 e1 R1 hv q=>by
  obtain ⟨C,ps,d,rfl,c,n,hl,q⟩ := q
  obtain ⟨a,dx,fs,rfl,h1,h2,h3⟩ := rep_ins hv
  obtain ⟨v,hv1,hv2⟩ := fs_look f h2 h3 hl
  exact ⟨a,_,dx,fs,v,rfl,R1.wd.g _ _ h1,c,n,hv1,k _ _ ρ1 G1 H1 e1 R1 hv2 q⟩
theorem atI_rep {H : Hp} {vs : List V} {ds : List D} {i : Int} {d : D} (r : Reps K H vs ds) (h : atI ds i = some d) : ∃ v,atI vs i = some v /\ Rep K H v d := by
 unfold atI at h ⊢
 rw [r.length]
 cases e : ixN ds.length i with
 | none=>rw [e] at h; cases h
 | some j =>
  rw [e] at h
  obtain ⟨v,h1,h2⟩ := r.get (show ds[j]? = some d from h)
  exact ⟨v,h1,h2⟩
theorem op2_ixL {ds : List D} {i : Int} {d : D} (h : atI ds i = some d) (q : Q d ρ) : Op2 K (rIx K) (.lst ds) (.int i) ρ Q := fun F G H σ R v w hv hw Q' k=>by
 obtain ⟨a,vs,rfl,h1,h2⟩ := rep_lst hv
 obtain ⟨x,h3,h4⟩ := atI_rep h2 h
 exact .inl ⟨a,vs,i,x,rfl,rep_int hw,.inl (.inl (R.wd.g _ _ h1)),h3,k _ _ ρ G H (Ex.refl G) R h4 q⟩
theorem op2_ixT {ds : List D} {i : Int} {d : D} (h : atI ds i = some d) (q : Q d ρ) : Op2 K (rIx K) (.tup ds) (.int i) ρ Q := fun F G H σ R v w hv hw Q' k=>by
 obtain ⟨a,vs,rfl,h1,h2⟩ := rep_tup hv
 obtain ⟨x,h3,h4⟩ := atI_rep h2 h
 exact .inr (.inl ⟨a,vs,i,x,rfl,rep_int hw,R.wd.g.sqT h1,h3,k _ _ ρ G H (Ex.refl G) R h4 q⟩)
def D.seq : D -> Option (List D)
 | .lst xs=>some xs
 | .tup xs=>some xs
 | _=>none
theorem op2_ix {x : D} {ds : List D} {i : Int} {d : D} (hx : x.seq = some ds) (h : atI ds i = some d) (q : Q d ρ) : Op2 K (rIx K) x (.int i) ρ Q := by
 cases x with
 | lst xs=>cases hx; exact op2_ixL h q
 | tup xs=>cases hx; exact op2_ixT h q
 | _=>cases hx
theorem opa_len {x : D} {ds : List D} (hx : x.seq = some ds) (q : Q (.int ds.length) ρ) : OpA K (rLenU K) [x] ρ Q := by
 cases x with
 | lst xs=>cases hx; exact opa_len_lst q
 | tup xs=>cases hx; exact opa_len_tup q
 | _=>cases hx
def cutDD (xs : List D) (lo hi : Option Int) : List D := (xs.drop (HT.sIx xs.length 0 lo)).take (HT.sIx xs.length xs.length hi - HT.sIx xs.length 0 lo)
theorem cut_reps {H : Hp} {vs : List V} {ds : List D} (r : Reps K H vs ds) (lo hi : Option Int) : Reps K H (cutV vs lo hi) (cutDD ds lo hi) := by
 unfold cutV cutDD
 rw [r.length]
 exact (r.drop _).take _
theorem eo_none {Q : Option Int -> Env -> Prop} (q : Q none ρ) : EvO K tNoPart ρ Q := fun F G H σ R Q' k=>k none ρ G H (Ex.refl G) R q
theorem eo_some {Q : Option Int -> Env -> Prop} (h : EvW K te ρ fun d ρ1=>∃ i,d = .int i /\ Q (some i) ρ1) : EvO K (tPart te) ρ Q := fun F G H σ R Q' k =>
 h F G H σ R _ fun v d ρ1 G1 H1 e1 R1 hv q=>by
  obtain ⟨i,rfl,q⟩ := q
  exact ⟨i,rep_int hv,k _ ρ1 G1 H1 e1 R1 q⟩
def rSlU (K : PySem.W.Frag) : V -> Option Int -> Option Int -> Hp -> VK -> Prop := fun x lo hi H Q=>rSlL K x lo hi H Q \/ rSlA K x lo hi H Q
theorem sl_U {X : Cx} : SlR X (rSlU X.K) := SlR.or sl_list sl_tupA
theorem en_slL {tl th : TO} (h : EvW K te ρ fun x ρ1=>EvO K tl ρ1 fun lo ρ2=>EvO K th ρ2 fun hi ρ3=>∃ ds,x = .lst ds /\ Q (.lst (cutDD ds lo hi)) ρ3) : EvN K (tSl (rSlU K) te tl th) ρ Q := fun F G H σ R Q' k =>
 h F G H σ R _ fun v x ρ1 G1 H1 e1 R1 hv q1=>q1 F G1 H1 σ R1 _ fun lo ρ2 G2 H2 e2 R2 q2=>q2 F G2 H2 σ R2 _ fun hi ρ3 G3 H3 e3 R3 q3=>by
  obtain ⟨ds,rfl,q⟩ := q3
  obtain ⟨a,vs,rfl,h1,h2⟩ := rep_lst (hv.mono (e2.trans e3))
  refine .inl ⟨a,vs,rfl,.inl (.inl (R3.wd.g _ _ h1)),fun p hp=>?_⟩
  exact k p (.lst (cutDD ds lo hi)) ρ3 G3 _ ((e1.trans e2).trans e3) (R3.alone hp) (R3.wd.g.none hp) (R3.wd.f.none hp) (ownA_fresh R3 hp) ⟨_,upd_same,cut_reps h2 lo hi⟩ q
theorem ew_slT {tl th : TO} (h : EvW K te ρ fun x ρ1=>EvO K tl ρ1 fun lo ρ2=>EvO K th ρ2 fun hi ρ3=>∃ ds,x = .tup ds /\ Q (.tup (cutDD ds lo hi)) ρ3) : EvW K (tSl (rSlU K) te tl th) ρ Q := fun F G H σ R Q' k =>
 h F G H σ R _ fun v x ρ1 G1 H1 e1 R1 hv q1=>q1 F G1 H1 σ R1 _ fun lo ρ2 G2 H2 e2 R2 q2=>q2 F G2 H2 σ R2 _ fun hi ρ3 G3 H3 e3 R3 q3=>by
  obtain ⟨ds,rfl,q⟩ := q3
  obtain ⟨a,vs,rfl,h1,h2⟩ := rep_tup (hv.mono (e2.trans e3))
  refine .inr ⟨a,vs,rfl,R3.wd.g.sqT h1,fun hw=>?_,fun _ p hp=>?_⟩
  ·have e : cutDD ds lo hi = ds := by
    unfold cutDD
    rw [h2.length] at hw
    rw [hw.1,hw.2]
    simp
   rw [e] at q
   exact k _ _ ρ3 G3 H3 ((e1.trans e2).trans e3) R3 (.tup h1 h2) q
  ·have en : Ex G3 (upd G3 p (.tup (cutV vs lo hi))) := Ex.new (R3.wd.g.none hp)
   exact k _ _ ρ3 _ _ (((e1.trans e2).trans e3).trans en) (R3.new hp) (.tup upd_same ((cut_reps h2 lo hi).mono en)) q
def strsD (xs : List Str) : List D := xs.map D.str
theorem reps_strs {H : Hp} : ∀ {vs : List V} {xs : List Str},Reps K H vs (strsD xs) -> vs = xs.map V.str
 | _,[],h=>h.nil_inv
 | _,x :: xs,h=>by
  obtain ⟨v,ws,rfl,h1,h2⟩ := h.cons_inv
  rw [rep_str h1,reps_strs h2]; rfl
theorem inV_strs (x : Str) : ∀ xs : List Str,inV (.str x) (xs.map V.str) = decide (x ∈ xs)
 | []=>by simp [inV]
 | y :: ys=>by
  have ih := inV_strs x ys
  unfold inV at ih ⊢
  rw [List.map_cons,List.any_cons,ih]
  have e : eqV (.str y) (.str x) = decide (y = x) := by
   unfold eqV
   by_cases z : y = x
   ·subst z; simp
   ·simp [z]
  rw [e]
  by_cases z : y = x
  ·subst z; simp
  ·have z' : ¬ x = y := fun q=>z q.symm
   simp [z,z']
theorem flat_strs : ∀ xs : List Str,(xs.map V.str).all flatV = true
 | []=>rfl
 | x :: xs=>by rw [List.map_cons,List.all_cons,flat_strs xs]; rfl
theorem op2_in {neg : Bool} {x : Str} {y : D} {ys : List Str} (hy : y.seq = some (strsD ys)) (q : Q (.bl (if neg then !decide (x ∈ ys) else decide (x ∈ ys))) ρ) : Op2 K (rIn K neg) (.str x) y ρ Q := fun F G H σ R v w hv hw Q' k=>by
 rw [rep_str hv]
 have fin : Q' (.bl (if neg then !inV (.str x) (ys.map V.str) else inV (.str x) (ys.map V.str))) H := by
  rw [inV_strs]; exact k _ _ ρ G H (Ex.refl G) R (.bl _) q
 cases y with
 | lst xs =>
  cases hy
  obtain ⟨a,vs,rfl,h1,h2⟩ := rep_lst hw
  rw [reps_strs h2] at h1
  exact ⟨a,_,rfl,.inl (.inl (.inl (R.wd.g _ _ h1))),rfl,flat_strs ys,fin⟩
 | tup xs =>
  cases hy
  obtain ⟨a,vs,rfl,h1,h2⟩ := rep_tup hw
  rw [reps_strs h2] at h1
  exact ⟨a,_,rfl,.inr (R.wd.g.sqT h1),rfl,flat_strs ys,fin⟩
 | _=>cases hy
theorem op2_sign {c : Nat} {z : Str} (q : Q (.bl (decide (c ∈ z.cps.toList))) ρ) : Op2 K (fun x y H Q=>∃ (c : Nat) (z : Str),x = .str ⟨#[c]⟩ /\ y = .str z /\ Q (.bl (decide (c ∈ z.cps.toList))) H) (.str ⟨#[c]⟩) (.str z) ρ Q := fun F G H σ R v w hv hw Q' k=>by
 rw [rep_str hv,rep_str hw]
 exact ⟨c,z,rfl,rfl,k _ _ ρ G H (Ex.refl G) R (.bl _) q⟩
theorem ei_seq {Q : List D -> Env -> Prop} (x : D) {ds : List D} (hx : x.seq = some ds) (h : EvW K te ρ fun d ρ1=>d = x /\ Q ds ρ1) : EvI K (fun σ H R=>iList K te σ H R \/ iTup K te σ H R) ρ Q := by
 cases x with
 | lst xs=>cases hx; exact ei_inl (ei_list (ew_weak h fun d ρ1 z=>⟨ds,z.1,z.2⟩))
 | tup xs=>cases hx; exact ei_inr (ei_tup (ew_weak h fun d ρ1 z=>⟨ds,z.1,z.2⟩))
 | _=>cases hx
theorem ei_enum {Q : List D -> Env -> Prop} (x : D) {ds : List D} (hx : x.seq = some ds) (h : EvA K ts ρ fun xs ρ1=>xs = [x] /\ Q (enumD ds) ρ1) : EvI K (fun σ H R=>iEnum K ts σ H R \/ iEnumT K ts σ H R) ρ Q := by
 cases x with
 | lst xs=>cases hx; exact ei_enumL fun F G H σ R Q' k=>h F G H σ R Q' fun vs ys ρ' G' H' e R1 hv q=>k vs ys ρ' G' H' e R1 hv ⟨ds,q.1,q.2⟩
 | tup xs=>cases hx; exact ei_enumT fun F G H σ R Q' k=>h F G H σ R Q' fun vs ys ρ' G' H' e R1 hv q=>k vs ys ρ' G' H' e R1 hv ⟨ds,q.1,q.2⟩
 | _=>cases hx
theorem ew_slU {tl th : TO} (x : D) {ds : List D} (hx : x.seq = some ds) (h : EvW K te ρ fun d ρ1=>d = x /\ EvO K tl ρ1 fun lo ρ2=>EvO K th ρ2 fun hi ρ3=>∀ y : D,y.seq = some (cutDD ds lo hi) -> Q y ρ3) : EvW K (tSl (rSlU K) te tl th) ρ Q := by
 cases x with
 | lst xs =>
  cases hx
  refine ew_new (en_slL (ew_weak h fun d ρ1 z=>?_))
  refine fun F G H σ R Q' k=>z.2 F G H σ R Q' fun lo ρ2 G2 H2 e2 R2 q2=>k lo ρ2 G2 H2 e2 R2 fun F G H σ R Q' k=>q2 F G H σ R Q' fun hi ρ3 G3 H3 e3 R3 q3=>k hi ρ3 G3 H3 e3 R3 ⟨ds,z.1,q3 _ rfl⟩
 | tup xs =>
  cases hx
  refine ew_slT (ew_weak h fun d ρ1 z=>?_)
  refine fun F G H σ R Q' k=>z.2 F G H σ R Q' fun lo ρ2 G2 H2 e2 R2 q2=>k lo ρ2 G2 H2 e2 R2 fun F G H σ R Q' k=>q2 F G H σ R Q' fun hi ρ3 G3 H3 e3 R3 q3=>k hi ρ3 G3 H3 e3 R3 ⟨ds,z.1,q3 _ rfl⟩
 | _=>cases hx
theorem ws_par {i j : Nat} {E : EndD} (h : EvA K ts ρ fun ds ρ1=>∃ d e,ds = [d,e] /\ E.nx ((ρ1.set i (.sh d)).set j (.sh e))) : WS K (tPar i j ts) ρ E := fun F G H σ Dn R L =>
 h F G H σ R _ fun vs ds ρ1 G1 H1 e1 R1 hv q=>by
  obtain ⟨d,e,rfl,q⟩ := q
  obtain ⟨v,w,rfl,h1,h2⟩ := hv.two
  exact ⟨v,w,rfl,L.nx _ _ G1 H1 e1 ((R1.setSh h1 i).setSh h2 j) q⟩
theorem en_lcB {wi : TI} {g : TG} {vs : List Nat} {f : D -> Bool} (h : EvI K wi ρ fun ds ρ1=>ownFree ρ1 vs = true /\ ds.length <= 90000 ∧
   (∀ (i : Nat) d,ds[i]? = some d -> GV K g vs d (wipeE ρ1 vs) fun ρ2=>EvW K te ρ2 fun y ρ4=>ρ4 = ρ2 /\ y = .bl (f d)) ∧
   Q (.lst ((ds.map f).map D.bl)) ρ1) : EvN K (tLc wi g tYes te vs) ρ Q := by
 refine en_lc fun F G H σ R R' k=>h F G H σ R R' fun J ds ρ' G' H' e R1 Y q=>k J ds ρ' G' H' e R1 Y ?_
 obtain ⟨h1,h2,h3,h4⟩ := q
 refine ⟨h1,h2,fun i acc=>acc = ((ds.map f).map D.bl).take i,rfl,fun i d acc hd hp=>?_,fun acc hp=>?_⟩
 ·subst hp
  refine fun F G H σ v R hv Q' k=>h3 i d hd F G H σ v R hv Q' fun σ' ρ2 l s R2 q2=>k σ' ρ2 l s R2 (et_yes ⟨rfl,?_⟩)
  show EvW K te ρ2 _
  refine ew_weak q2 fun y ρ4 z=>⟨z.1,?_⟩
  show _ ++ [y] = List.take (i + 1) _
  rw [z.2,List.take_add_one]
  simp [hd]
 ·subst hp
  have e : ((ds.map f).map D.bl).take ds.length = (ds.map f).map D.bl := List.take_of_length_le (by simp)
  rw [e]; exact h4
end
end DL
namespace DL
open PySem PySem.Spec PyProof.Rows L2
variable [TabL]
section
variable {X : Cx} {K : PySem.W.Frag}
theorem kin (h : X.K = K) : OpR X (compareOp .In) (rIn K false) := h ▸ op_in_seq
theorem knotin (h : X.K = K) : OpR X (compareOp .NotIn) (rIn K true) := h ▸ op_notIn_seq
theorem kix (h : X.K = K) : IxR X (rIx K) := h ▸ ix_seq
theorem ksl (h : X.K = K) : SlR X (rSlU K) := h ▸ sl_U
theorem klen (h : X.K = K) : CallR X (.builtin "len") (rLenU K) := h ▸ call_lenU
theorem kisi (h : X.K = K) : CallR X (.builtin "isinstance") (rIsi K) := h ▸ call_isi
theorem kisiT (h : X.K = K) : CallR X (.builtin "isinstance") (rIsiT K) := h ▸ call_isiT
theorem kall (hc : X.calm = true) (h : X.K = K) : CallR X (.builtin "all") (rAll K) := h ▸ cr_all hc
theorem kany (hc : X.calm = true) (h : X.K = K) : CallR X (.builtin "any") (rAny K) := h ▸ cr_any hc
theorem keqD (h : X.K = K) (hu : X.A.units + 64 < cLine) : OpR X (compareOp .Eq) (rEqD K) := h ▸ op_eqD hu
theorem kneD (h : X.K = K) (hu : X.A.units + 64 < cLine) : OpR X (compareOp .NotEq) (rNeD K) := h ▸ op_neD hu
theorem kcatA (h : X.K = K) : OpR X (binaryOp .Add) (rCatA K) := h ▸ op_catA
def rTupOf (K : PySem.W.Frag) : List V -> Hp -> VK -> Prop := fun xs H Q=>∃ p ys,xs = [.ref p] /\ ((SqL K H p ys /\ ∀ l,H l = none -> Q (.ref l) (upd H l (.tup ys))) \/ (SqT K H p ys /\ Q (.ref p) H))
def rLstOf (K : PySem.W.Frag) : List V -> Hp -> VK -> Prop := fun xs H Q=>∃ p ys,xs = [.ref p] /\ (SqL K H p ys \/ SqT K H p ys) /\ ∀ l,H l = none -> Q (.ref l) (upd H l (.lst ys))
theorem ktuple (h : X.K = K) : CallR X (.type "tuple") (rTupOf K) := h ▸ call_tuple_of
theorem klist (h : X.K = K) : CallR X (.type "list") (rLstOf K) := h ▸ call_list_of
theorem kfld {e : Expr} {ta : TE} {f : Str} {pos : Pos} (h : X.K = K) (he : PE X e ta) (hb : attributeBase e f X.env (eval e X.env) = eval e X.env) : PE X (.Attribute e f pos) (tFld K ta f) := h ▸ pe_fld he hb
theorem kwl {tg e : Expr} {te : TE} (h : X.K = K) (he : PE X e te) : PI X tg e (iList K te) := h ▸ pi_list he
theorem kwt {tg e : Expr} {te : TE} (h : X.K = K) (he : PE X e te) : PI X tg e (iTup K te) := h ▸ pi_tup he
theorem kwU {tg e : Expr} {te : TE} (h : X.K = K) (he : PE X e te) : PI X tg e (fun σ H R=>iList K te σ H R \/ iTup K te σ H R) := pi_or (kwl h he) (kwt h he)
theorem kenum {e : Expr} {ta : TA} {p pos tpos : Pos} {elts : List Expr} {kk : Nat} (h : X.K = K) (hg : Gl X "enumerate") (hm : X.mg "enumerate" = none) (ha : PA X [e] ta) (hs : starEach [e] X.env = [(false,eval e X.env)] := by rfl) :
  PI X (.Tuple elts kk tpos) (.Call (.Name "enumerate" p) [e] [] pos) (fun σ H R=>iEnum K ta σ H R \/ iEnumT K ta σ H R) := h ▸ pi_enumU hg hm ha hs
theorem kgt {es : List Expr} {k : Nat} {t : TGs} {n : Nat} {pos : Pos} (h : X.K = K) (hc : X.calm = true) (hg : PGs X es t) (hn : (assignEach es X.env).length = n := by rfl) (hst : (assignEach es X.env).findIdx? (·.1) = none := by rfl) : PG X (.Tuple es k pos) (gTup K n t) := h ▸ pg_tup hc hg hn hst
theorem kbm {o e : Expr} {es : List Expr} {name : Str} {apos cpos : Pos} {T : String} {id : String} {r : V -> List V -> Hp -> VK -> Prop} {to : TE} {t : TA} (h : X.K = K) (hp : PE X (.Call (.Attribute o name apos) (e :: es) [] cpos) (tBM X.K T r to t)) : PE X (.Call (.Attribute o name apos) (e :: es) [] cpos) (tBM K T r to t) := h ▸ hp
end
theorem ws_ifn {K : PySem.W.Frag} {tt : TT} {t : TS} {ρ : Env} {E : EndD} {C : Prop} (h : EvT K tt ρ fun b ρ'=>if b = true then WS K t ρ' E else ρ' = ρ /\ C) (k : C -> E.nx ρ) : WS K (tIfS tt t tNext) ρ E :=
 ws_if (et_weak h fun b ρ' q=>by
  cases b with
  | true=>exact q
  | false =>
   obtain ⟨rfl,c⟩ := q
   exact ws_next (k c))
end DL
namespace DL
open PySem PySem.Spec PyProof.Rows L2
variable [TabL]
section
variable {K : PySem.W.Frag} {te ta tb tc td ty tv : TE} {tt tu : TT} {ts : TA} {ρ : Env} {Q : D -> Env -> Prop} {E : EndD}
theorem ew_append {i : Nat} {a : Addr} {d0 : List D} (hi : ρ[i]? = some (.own a (.lst d0))) (h : EvW K te ρ fun d ρ1=>∃ ds,ρ1[i]? = some (.own a (.lst ds)) /\ ds.length < 90000 /\ Q .non (ρ1.set i (.own a (.lst (ds ++ [d]))))) :
  EvW K (tBM K "list" rAppend (tVar i) (tCons te tNil)) ρ Q := fun F G H σ R Q' k=>by
 obtain ⟨s,hs,rfl,_,_,vs0,hd0,_⟩ := R.sl.get hi
 refine ⟨.ref a,hs,.inl ⟨rfl,vs0,.inl (.inl hd0)⟩,h F G H σ R _ fun v d ρ1 G1 H1 e1 R1 hv q=>?_⟩
 obtain ⟨ds,hi1,hl,q⟩ := q
 obtain ⟨_,hs1,e,hG,hF,vs,hd,hr⟩ := R1.sl.get hi1
 refine ⟨a,vs,v,rfl,rfl,hd,by rw [hr.length]; exact bigl (by omega),?_⟩
 exact k .non .non _ G1 _ e1 (R1.mut (r' := .own a (.lst (ds ++ [d]))) hi1 (List.mem_singleton.mpr rfl) (List.Sublist.refl _) hs ⟨rfl,hG,hF,_,upd_same,hr.append (.cons hv .nil)⟩) .non q
theorem ew_popAt {i : Nat} {a : Addr} {d0 : List D} (hi : ρ[i]? = some (.own a (.lst d0))) (h : EvW K te ρ fun d ρ1=>∃ ds j y,d = .int j /\ ρ1[i]? = some (.own a (.lst ds)) /\ 0 <= j /\ j < 100000 /\ ds[j.toNat]? = some y /\ Q y (ρ1.set i (.own a (.lst (ds.eraseIdx j.toNat))))) :
  EvW K (tBM K "list" rPopAt (tVar i) (tCons te tNil)) ρ Q := fun F G H σ R Q' k=>by
 obtain ⟨s,hs,rfl,_,_,vs0,hd0,_⟩ := R.sl.get hi
 refine ⟨.ref a,hs,.inl ⟨rfl,vs0,.inl (.inl hd0)⟩,h F G H σ R _ fun v d ρ1 G1 H1 e1 R1 hv q=>?_⟩
 obtain ⟨ds,j,y,rfl,hi1,h0,h1,hy,q⟩ := q
 rw [rep_int hv]
 obtain ⟨_,hs1,e,hG,hF,vs,hd,hr⟩ := R1.sl.get hi1
 obtain ⟨x,hx,hxr⟩ := hr.get hy
 have hlt := (List.getElem?_eq_some_iff.mp hx).1
 have hj : ixN vs.length j = some j.toNat := by
  unfold ixN
  rw [if_pos h0,if_pos (by omega)]
 refine ⟨a,vs,j,j.toNat,x,rfl,rfl,hd,by omega,by omega,(ixN_seq hj).1,hx,?_⟩
 exact k x y _ G1 _ e1 (R1.mut (r' := .own a (.lst (ds.eraseIdx j.toNat))) hi1 (List.mem_singleton.mpr rfl) (List.Sublist.refl _) hs ⟨rfl,hG,hF,_,upd_same,hr.eraseIdx _⟩) hxr q
def dput {κ : Type} [DecidableEq κ] (ps : List (κ × D)) (k : κ) (d : D) : List (κ × D) :=
 if (ps.any fun kv=>decide (kv.1 = k)) = true then ps.map (fun kv=>if kv.1 = k then (kv.1,d) else kv) else ps ++ [(k,d)]
theorem any_keys {κ α β : Type} [DecidableEq κ] (k : κ) : ∀ {kvs : List (κ × α)} {ps : List (κ × β)},kvs.map (·.1) = ps.map (·.1) -> (kvs.any fun kv=>decide (kv.1 = k)) = ps.any fun kv=>decide (kv.1 = k)
 | [],[],_=>rfl
 | [],_ :: _,e=>by simp at e
 | _ :: _,[],e=>by simp at e
 | kv :: kvs,p :: ps,e=>by
  simp only [List.map_cons,List.cons.injEq] at e
  rw [List.any_cons,List.any_cons,any_keys k e.2,e.1]
theorem put_rel {κ : Type} [DecidableEq κ] {H : Hp} {kvs : List (κ × V)} {ps : List (κ × D)} {k : κ} {v : V} {d : D} (e : kvs.map (·.1) = ps.map (·.1)) (r : Reps K H (kvs.map (·.2)) (ps.map (·.2))) (hv : Rep K H v d) :
  (putK kvs k v).map (·.1) = (dput ps k d).map (·.1) /\ Reps K H ((putK kvs k v).map (·.2)) ((dput ps k d).map (·.2)) := by
 unfold putK dput
 rw [any_keys k e]
 split
 ·have key : ∀ {kvs : List (κ × V)} {ps : List (κ × D)},kvs.map (·.1) = ps.map (·.1) -> Reps K H (kvs.map (·.2)) (ps.map (·.2)) ->
    (kvs.map fun kv=>if kv.1 = k then (kv.1,v) else kv).map (·.1) = (ps.map fun kv=>if kv.1 = k then (kv.1,d) else kv).map (·.1) /\ Reps K H ((kvs.map fun kv=>if kv.1 = k then (kv.1,v) else kv).map (·.2)) ((ps.map fun kv=>if kv.1 = k then (kv.1,d) else kv).map (·.2)) := by
   intro kvs
   induction kvs with
   | nil=>intro ps e r; cases ps with
    | nil=>exact ⟨rfl,.nil⟩
    | cons _ _=>simp at e
   | cons kv kvs ih =>
    intro ps e r
    cases ps with
    | nil=>simp at e
    | cons p ps =>
     simp only [List.map_cons,List.cons.injEq] at e
     cases r with
     | cons r1 r2 =>
      obtain ⟨i1,i2⟩ := ih e.2 r2
      simp only [List.map_cons]
      by_cases hk : kv.1 = k
      ·have hp : p.1 = k := e.1 ▸ hk
       rw [if_pos hk,if_pos hp]
       exact ⟨by rw [i1,e.1],.cons hv i2⟩
      ·have hp : ¬ p.1 = k := fun z=>hk (e.1.trans z)
       rw [if_neg hk,if_neg hp]
       exact ⟨by rw [i1,e.1],.cons r1 i2⟩
  exact key e r
 ·rw [List.map_append,List.map_append,List.map_append,List.map_append,e]
  exact ⟨rfl,r.append (.cons hv .nil)⟩
def isAny : Sl -> Bool
 | .any _ _=>true
 | _=>false
end
end DL
namespace DL
open PySem PySem.Spec PyProof.Rows L2
variable [TabL]
section
variable {K : PySem.W.Frag} {te ta tb tc td ty tv : TE} {tt tu : TT} {ts : TA} {ρ : Env} {Q : D -> Env -> Prop} {E : EndD}
theorem en_of {F G H : Hp} {σ : L2.St} {ρ : Env} (R : RE K F G H σ ρ) {p : Addr} (hp : H p = none) {vs : List V} {ds : List D} (hr : Reps K G vs ds) :
  RE K F G (upd H p (.lst vs)) σ ρ /\ G p = none /\ F p = none /\ p ∉ ownA ρ /\ OwnR K G (upd H p (.lst vs) p) (.lst ds) :=
 ⟨R.alone hp,R.wd.g.none hp,R.wd.f.none hp,ownA_fresh R hp,vs,upd_same,hr⟩
theorem tn_of {F G H : Hp} {σ : L2.St} {ρ : Env} (R : RE K F G H σ ρ) {p : Addr} (hp : H p = none) {vs : List V} {ds : List D} (hr : Reps K G vs ds) :
  Ex G (upd G p (.tup vs)) /\ RE K F (upd G p (.tup vs)) (upd H p (.tup vs)) σ ρ /\ Rep K (upd G p (.tup vs)) (.ref p) (.tup ds) :=
 ⟨Ex.new (R.wd.g.none hp),R.new hp,.tup upd_same (hr.mono (Ex.new (R.wd.g.none hp)))⟩
theorem en_cat (h : EvW K ta ρ fun x ρ1=>EvW K tb ρ1 fun y ρ2=>∃ xs ys,x = .lst xs /\ y = .lst ys /\ xs.length + ys.length <= 90000 /\ Q (.lst (xs ++ ys)) ρ2) : EvN K (tOp rCat ta tb) ρ Q := fun F G H σ R Q' k =>
 h F G H σ R _ fun v x ρ1 G1 H1 e1 R1 hv q1=>q1 F G1 H1 σ R1 _ fun w y ρ2 G2 H2 e2 R2 hw q2=>by
  obtain ⟨xs,ys,rfl,rfl,hl,q⟩ := q2
  obtain ⟨a,vs,rfl,h1,h2⟩ := rep_lst (hv.mono e2)
  obtain ⟨b,ws,rfl,h3,h4⟩ := rep_lst hw
  refine ⟨a,b,vs,ws,rfl,rfl,R2.wd.g _ _ h1,R2.wd.g _ _ h3,by rw [h2.length,h4.length]; exact big (by omega),fun p hp=>?_⟩
  obtain ⟨z1,z2,z3,z4,z5⟩ := en_of R2 hp (h2.append h4)
  exact k p _ ρ2 G2 _ (e1.trans e2) z1 z2 z3 z4 z5 q
theorem op2_catT {xs ys : List D} (hl : xs.length + ys.length <= 90000) (q : Q (.tup (xs ++ ys)) ρ) : Op2 K (rCatA K) (.tup xs) (.tup ys) ρ Q := fun F G H σ R v w hv hw Q' k=>by
 obtain ⟨a,vs,rfl,h1,h2⟩ := rep_tup hv
 obtain ⟨b,ws,rfl,h3,h4⟩ := rep_tup hw
 have l1 := h2.length
 have l2 := h4.length
 refine ⟨a,b,vs,ws,rfl,rfl,R.wd.g.sqT h1,R.wd.g.sqT h3,by rw [l1,l2]; exact big (by omega),fun e=>?_,fun _ e=>?_,fun _ _ p hp=>?_⟩
 ·have : xs = [] := List.length_eq_zero_iff.mp (by rw [<- l1,e]; rfl)
  subst this
  exact k _ _ ρ G H (Ex.refl G) R (.tup h3 h4) q
 ·have : ys = [] := List.length_eq_zero_iff.mp (by rw [<- l2,e]; rfl)
  subst this
  rw [List.append_nil] at q
  exact k _ _ ρ G H (Ex.refl G) R (.tup h1 h2) q
 ·obtain ⟨z1,z2,z3⟩ := tn_of R hp (h2.append h4)
  exact k _ _ ρ _ _ z1 z2 z3 q
theorem opa_tuple {x : D} {ds : List D} (hx : x.seq = some ds) (q : Q (.tup ds) ρ) : OpA K (rTupOf K) [x] ρ Q := fun F G H σ R vs hv Q' k=>by
 obtain ⟨v,rfl,h⟩ := hv.one
 cases x with
 | lst xs =>
  cases hx
  obtain ⟨a,ws,rfl,h1,h2⟩ := rep_lst h
  refine ⟨a,ws,rfl,.inl ⟨.inl (.inl (R.wd.g _ _ h1)),fun p hp=>?_⟩⟩
  obtain ⟨z1,z2,z3⟩ := tn_of R hp h2
  exact k _ _ ρ _ _ z1 z2 z3 q
 | tup xs =>
  cases hx
  obtain ⟨a,ws,rfl,h1,h2⟩ := rep_tup h
  exact ⟨a,ws,rfl,.inr ⟨R.wd.g.sqT h1,k _ _ ρ G H (Ex.refl G) R h q⟩⟩
 | _=>cases hx
theorem opn_list {x : D} {ds : List D} (hx : x.seq = some ds) (q : Q (.lst ds) ρ) : OpN K (rLstOf K) [x] ρ Q := fun F G H σ R vs hv Q' k=>by
 obtain ⟨v,rfl,h⟩ := hv.one
 cases x with
 | lst xs =>
  cases hx
  obtain ⟨a,ws,rfl,h1,h2⟩ := rep_lst h
  refine ⟨a,ws,rfl,.inl (.inl (.inl (R.wd.g _ _ h1))),fun p hp=>?_⟩
  obtain ⟨z1,z2,z3,z4,z5⟩ := en_of R hp h2
  exact k p _ ρ G _ (Ex.refl G) z1 z2 z3 z4 z5 q
 | tup xs =>
  cases hx
  obtain ⟨a,ws,rfl,h1,h2⟩ := rep_tup h
  refine ⟨a,ws,rfl,.inr (R.wd.g.sqT h1),fun p hp=>?_⟩
  obtain ⟨z1,z2,z3,z4,z5⟩ := en_of R hp h2
  exact k p _ ρ G _ (Ex.refl G) z1 z2 z3 z4 z5 q
 | _=>cases hx
theorem reps_of_strs {H : Hp} : ∀ xs : List Str,Reps K H (xs.map V.str) (strsD xs)
 | []=>.nil
 | x :: xs=>.cons (.str x) (reps_of_strs xs)
theorem opa_int {i : Int} (q : Q (.int i) ρ) : OpA K (fun xs H Q=>(∃ i,xs = [.int i] /\ Q (.int i) H) \/ ∃ k,xs = [.bl k] /\ Q (.int (if k then 1 else 0)) H) [.int i] ρ Q := fun F G H σ R vs hv Q' k=>by
 obtain ⟨v,rfl,h⟩ := hv.one
 rw [rep_int h]
 exact .inl ⟨i,rfl,k _ _ ρ G H (Ex.refl G) R (.int i) q⟩
theorem opa_min {i j : Int} (q : Q (.int (if j < i then j else i)) ρ) : OpA K (fun xs H Q=>∃ i j,xs = [.int i,.int j] /\ Q (.int (if j < i then j else i)) H) [.int i,.int j] ρ Q := fun F G H σ R vs hv Q' k=>by
 obtain ⟨v,w,rfl,h1,h2⟩ := hv.two
 rw [rep_int h1,rep_int h2]
 exact ⟨i,j,rfl,k _ _ ρ G H (Ex.refl G) R (.int _) q⟩
theorem rep_scr {H : Hp} {v : V} {ns : List Int} (h : Rep K H v (.scr ns)) : ∃ a,v = .ref a /\ SqL K H a (ns.map V.int) := by
 cases h with | scr a=>exact ⟨_,rfl,a⟩
theorem Ex.sqL {H H' : Hp} {a : Addr} {xs : List V} (e : Ex H H') (h : SqL K H a xs) : SqL K H' a xs := e.rdx.sqL h
theorem opa_len_scr {ns : List Int} (q : Q (.int ns.length) ρ) : OpA K (rLenU K) [.scr ns] ρ Q := fun F G H σ R vs hv Q' k=>by
 obtain ⟨v,rfl,h⟩ := hv.one
 obtain ⟨a,rfl,h1⟩ := rep_scr h
 refine .inl (.inl ⟨a,_,rfl,.inl (R.wd.g.sqL h1),?_⟩)
 rw [List.length_map]
 exact k _ _ ρ G H (Ex.refl G) R (.int _) q
theorem op2_ix_scr {ns : List Int} {j : Nat} {n : Int} (h : ns[j]? = some n) (q : Q (.int n) ρ) : Op2 K (rIx K) (.scr ns) (.int (j : Nat)) ρ Q := fun F G H σ R v w hv hw Q' k=>by
 obtain ⟨a,rfl,h1⟩ := rep_scr hv
 exact .inl ⟨a,_,j,.int n,rfl,rep_int hw,R.wd.g.sqL h1,atI_nat (by rw [List.getElem?_map,h]; rfl),k _ _ ρ G H (Ex.refl G) R (.int n) q⟩
theorem RE.unfrm' {F G H : Hp} {σ : L2.St} {ρ : Env} {p : Addr} {o : HO} (R : RE K (upd F p o) G H σ ρ) (hF : F p = none) : p ∉ ownA ρ := fun m=>by
 have z := (R.sl.own m).2.1
 rw [upd_same] at z; cases z
mutual
def toPy : D -> Option PyData
 | .non=>some .none
 | .bl b=>some (.bool b)
 | .int i=>some (.int i)
 | .str x=>some (.str x)
 | .lst xs=>(toPys xs).map PyData.list
 | .tup xs=>(toPys xs).map PyData.tuple
 | .dk _=>none
 | .dt _=>none
 | .ins _ _=>none
 | .scr _=>none
 | .kt _=>none
 | .raw _=>none
 | .tag _ _=>none
 | .exc _ _=>none
def toPys : List D -> Option (List PyData)
 | []=>some []
 | x :: xs=>match toPy x,toPys xs with
  | some p,some ps=>some (p :: ps)
  | _,_=>none
end
mutual
theorem rep_dp {H : Hp} : ∀ {v : V} {d : D} {p : PyData},Rep K H v d -> toPy d = some p -> Dp K H v p
 | _,_,_,.non,e=>by unfold toPy at e; cases e; exact .non
 | _,_,_,.bl b,e=>by unfold toPy at e; cases e; exact .bl b
 | _,_,_,.int b,e=>by unfold toPy at e; cases e; exact .int b
 | _,_,_,.str b,e=>by unfold toPy at e; cases e; exact .str b
 | _,_,_,.lst h r,e=>by
  unfold toPy at e
  obtain ⟨ps,h1,rfl⟩ := Option.map_eq_some_iff.mp e
  exact .lst (.inl (.inl h)) (reps_dp r h1)
 | _,_,_,.tup h r,e=>by
  unfold toPy at e
  obtain ⟨ps,h1,rfl⟩ := Option.map_eq_some_iff.mp e
  exact .tup (.inl (.inl h)) (reps_dp r h1)
 | _,_,_,.dk _ _ _,e=>by unfold toPy at e; cases e
 | _,_,_,.dt _ _ _,e=>by unfold toPy at e; cases e
 | _,_,_,.ins _ _ _,e=>by unfold toPy at e; cases e
 | _,_,_,.scr _,e=>by unfold toPy at e; cases e
 | _,_,_,.kt _ _,e=>by unfold toPy at e; cases e
 | _,_,_,.raw,e=>by unfold toPy at e; cases e
 | _,_,_,.tag _,e=>by unfold toPy at e; cases e
 | _,_,_,.exc _ _ _ _,e=>by unfold toPy at e; cases e
 | _,_,_,.ex0 _,e=>by unfold toPy at e; cases e
theorem reps_dp {H : Hp} : ∀ {vs : List V} {ds : List D} {ps : List PyData},Reps K H vs ds -> toPys ds = some ps -> DpAll K H vs ps
 | _,_,_,.nil,e=>by unfold toPys at e; cases e; exact .nil
 | _,_,_,.cons (d := d) (ds := ds) h r,e=>by
  unfold toPys at e
  cases e1 : toPy d with
  | none=>rw [e1] at e; simp at e
  | some p =>
   cases e2 : toPys ds with
   | none=>rw [e1,e2] at e; simp at e
   | some ps =>
    rw [e1,e2] at e
    cases e
    exact .cons (rep_dp h e1) (reps_dp r e2)
end
theorem op2_eqD {x y : D} {p q : PyData} (hx : toPy x = some p) (hy : toPy y = some q) (sx : SeqAt.shaped p = true) (sy : SeqAt.shaped q = true) (h : Q (.bl (PyData.eqv p q)) ρ) : Op2 K (rEqD K) x y ρ Q := fun F G H σ R v w hv hw Q' k =>
 ⟨p,q,rep_dp (hv.mono R.wd.g) hx,rep_dp (hw.mono R.wd.g) hy,sx,sy,k _ _ ρ G H (Ex.refl G) R (.bl _) h⟩
theorem op2_neD {x y : D} {p q : PyData} (hx : toPy x = some p) (hy : toPy y = some q) (sx : SeqAt.shaped p = true) (sy : SeqAt.shaped q = true) (h : Q (.bl (!PyData.eqv p q)) ρ) : Op2 K (rNeD K) x y ρ Q := fun F G H σ R v w hv hw Q' k =>
 ⟨p,q,rep_dp (hv.mono R.wd.g) hx,rep_dp (hw.mono R.wd.g) hy,sx,sy,k _ _ ρ G H (Ex.refl G) R (.bl _) h⟩
theorem toPys_strs : ∀ xs : List Str,toPys (strsD xs) = some (xs.map PyData.str)
 | []=>by unfold strsD; rw [List.map_nil,toPys]; rfl
 | x :: xs=>by
  have ih := toPys_strs xs
  unfold strsD at ih ⊢
  rw [List.map_cons,toPys,toPy,ih]
  rfl
theorem shaped_strs {xs : List Str} (h : ∀ x ∈ xs,PyData.strOk x = true) : SeqAt.shaped (.list (xs.map PyData.str)) = true := by
 have key : ∀ xs : List Str,(∀ x ∈ xs,PyData.strOk x = true) -> PyData.canLayAll0 (xs.map PyData.str) = true /\ PyData.depthAll (xs.map PyData.str) = 0 := by
  intro xs
  induction xs with
  | nil=>intro _; exact ⟨by simp [PyData.canLayAll0],by simp [PyData.depthAll]⟩
  | cons x xs ih =>
   intro h
   obtain ⟨i1,i2⟩ := ih fun y hy=>h y (List.mem_cons_of_mem _ hy)
   refine ⟨?_,?_⟩
   ·rw [List.map_cons,PyData.canLayAll0,PyData.canLay0,h x List.mem_cons_self,i1]; rfl
   ·rw [List.map_cons,PyData.depthAll,PyData.depth,i2]; rfl
 obtain ⟨k1,k2⟩ := key xs h
 unfold SeqAt.shaped
 rw [PyData.canLay0,k1,PyData.depth,k2]
 rfl
theorem op2_ne_nil {xs : List Str} (hs : ∀ x ∈ xs,PyData.strOk x = true) (h : Q (.bl (!xs.isEmpty)) ρ) : Op2 K (rNeD K) (.lst (strsD xs)) (.lst []) ρ Q := by
 refine op2_neD (p := .list (xs.map PyData.str)) (q := .list []) (by rw [toPy,toPys_strs]; rfl) (by rw [toPy,toPys]; rfl) (shaped_strs hs) (by decide +kernel) ?_
 have e : PyData.eqv (.list (xs.map PyData.str)) (.list []) = xs.isEmpty := by
  cases xs with
  | nil=>simp [PyData.eqv,PyData.eqvAll]
  | cons x xs=>simp [PyData.eqv,PyData.eqvAll]
 rw [e]; exact h
end
end DL
namespace DL
open PySem PySem.Spec PyProof.Rows L2
variable [TabL]
section
variable {K : PySem.W.Frag} {te ta tb tc td ty tv : TE} {tt tu : TT} {ts : TA} {ρ : Env} {Q : D -> Env -> Prop} {E : EndD}
theorem RE.forget {F G H : Hp} {σ : L2.St} {r : Sl} {i : Nat} {s : Option V} (R : RE K F G H σ ρ) (hi : ρ[i]? = some r) (hσ : σ[i]? = some s) : RE K F G H σ (ρ.set i .un) :=
 ⟨R.wd,R.sl.but hσ (r' := .un) trivial fun j s r n h1 h2 q=>q,List.Nodup.sublist (ownA_setr (r' := .un) (List.nil_sublist _) hi) R.nd⟩
theorem RE.setAny {F G H : Hp} {σ : L2.St} {ρ : Env} {s : Option V} {r : Sl} (R : RE K F G H σ ρ) (hs : SlotOk K F G H s r) (h1 : r.adr.Nodup) (h2 : ∀ a ∈ r.adr,a ∉ ownA ρ) (i : Nat) : RE K F G H (σ.set i s) (ρ.set i r) :=
 ⟨R.wd,R.sl.set hs i,(ownA_set_own i R.nd h1 h2).1⟩
end
end DL
namespace DL
open PySem PySem.Spec PyProof.Rows L2
variable [TabL]
section
variable {K : PySem.W.Frag} {te ta tb tc td ty tv tk : TE} {tt tu : TT} {ts : TA} {ρ : Env} {Q : D -> Env -> Prop} {E : EndD}
theorem OwnR.rdx {G G' : Hp} {o : Option HO} {d : D} (h : OwnR K G o d) (x : RdX G G') : OwnR K G' o d := by
 cases d with
 | lst _=>obtain ⟨vs,e,r⟩ := h; exact ⟨vs,e,r.rdx x⟩
 | dk _=>obtain ⟨vs,e,k,r⟩ := h; exact ⟨vs,e,k,r.rdx x⟩
 | dt _=>obtain ⟨vs,e,k,r⟩ := h; exact ⟨vs,e,k,r.rdx x⟩
 | ins _ _=>obtain ⟨dx,vs,e,k,r⟩ := h; exact ⟨dx,vs,e,k,r.rdx x⟩
 | _=>exact h.elim
theorem SlotOk.rdx {F G G' H H' : Hp} {s : Option V} {r : Sl} (h : SlotOk K F G H s r) (e : RdX G G') (ht : ∀ t xs,G t = some (.tup xs) -> G' t = some (.tup xs)) (hx : ∀ c c' q,G c = some (LamX.CodeO c' q) -> G' c = some (LamX.CodeO c' q)) (k : ∀ a ∈ r.adr,H' a = H a /\ G' a = none) : SlotOk K F G' H' s r := by
 cases r with
 | un=>trivial
 | sh d=>obtain ⟨v,h1,h2⟩ := h; exact ⟨v,h1,h2.rdx e⟩
 | own b d =>
  obtain ⟨h0,h1,h2,h3⟩ := h
  have kb := k b (List.mem_singleton.mpr rfl)
  exact ⟨h0,kb.2,h2,by rw [kb.1]; exact h3.rdx e⟩
 | drw b =>
  obtain ⟨h0,h1,h2,h3⟩ := h
  have kb := k b (List.mem_singleton.mpr rfl)
  exact ⟨h0,kb.2,h2,by rw [kb.1]; exact h3⟩
 | two p q xs ys =>
  obtain ⟨⟨t,h0,h00⟩,h1,h2,h3,h4,h5,h6⟩ := h
  have kp := k p List.mem_cons_self
  have kq := k q (List.mem_cons_of_mem _ (List.mem_singleton.mpr rfl))
  exact ⟨⟨t,h0,ht _ _ h00⟩,kp.2,h2,kq.2,h4,by rw [kp.1]; exact h5,by rw [kq.1]; exact h6⟩
 | any S φ=>exact ⟨h.2.1 _ _ _ _ _ e (fun a m=>(k a m).1) h.1,h.2.1,fun a m=>⟨(k a m).2,(h.2.2 a m).2.1,by rw [(k a m).1]; exact (h.2.2 a m).2.2⟩⟩
theorem RE.relock {F G H : Hp} {σ : L2.St} {d : Addr} {u u' : HO} (R : RE K F G H σ ρ) (hd : G d = some u) (e : RdX G (upd G d u')) (hu : ∀ xs,u ≠ .tup xs) (hv : ∀ c q,u ≠ LamX.CodeO c q) : RE K F (upd G d u') (upd H d u') σ ρ := by
 refine ⟨⟨fun a o h=>?_,R.wd.g.upd,fun a o h=>?_,R.wd.ft,R.wd.tb.step (fun c q z=>?_) fun t ht=>?_⟩,R.sl.map (fun i s r _ hr q=>q.rdx e (fun t xs z=>?_) (fun c c' q' z=>?_) fun a m=>?_),R.nd⟩
 ·have ne : a ≠ d := fun z=>by rw [z] at h; rw [R.wd.fg d o h] at hd; cases hd
  rw [upd_ne ne]; exact R.wd.f a o h
 ·have ne : a ≠ d := fun z=>by rw [z] at h; rw [R.wd.fg d o h] at hd; cases hd
  rw [upd_ne ne]; exact R.wd.fg a o h
 ·have ne : c ≠ d := fun z'=>by rw [z',hd] at z; exact hv _ _ (Option.some.inj z)
  rw [upd_ne ne]; exact z
 ·obtain ⟨g1,g2,_⟩ := R.wd.tb t ht
  have ne : t.1 ≠ d := fun z=>by rw [z,hd] at g1; cases g1
  rw [upd_ne ne,upd_ne ne]
  exact ⟨rfl,g1,g2⟩
 ·have ne : t ≠ d := fun z'=>by rw [z',hd] at z; cases z; exact hu _ rfl
  rw [upd_ne ne]; exact z
 ·have ne : c ≠ d := fun z'=>by rw [z',hd] at z; exact hv _ _ (Option.some.inj z)
  rw [upd_ne ne]; exact z
 ·have ne : a ≠ d := fun z=>by
   have := (q.own m).1
   rw [z,hd] at this; cases this
  rw [upd_ne ne,upd_ne ne]
  exact ⟨rfl,(q.own m).1⟩
theorem rep_of_kD {H : Hp} (k : Key) : Rep K H (kV k) (kD k) := by
 cases k with
 | inl i=>exact .int i
 | inr x=>exact .str x
theorem for_core {J : It} {g : TG} {t : TS} {Dn : Ends} {F G H : Hp} {σ : L2.St} {ds : List D} (R1 : RE K F G H σ ρ) (Y : Yields K G J ds) (L : Links K F G E Dn) (P : Nat -> Env -> Prop) (p0 : P 0 ρ)
  (turn : ∀ i d ρ',ds[i]? = some d -> P i ρ' -> GW K g d ρ' fun ρ2=>WS K t ρ2 { E with nx := P (i + 1),ct := P (i + 1),bk := E.nx }) (fin : ∀ ρ',P ds.length ρ' -> E.nx ρ') : tFor (fun σ H R=>R J H) g t Dn σ H := by
 refine ⟨fun i m σ' H'=>m + i = ds.length /\ ∃ ρ' G',Ex G G' /\ RE K F G' H' σ' ρ' /\ P i ρ',⟨ds.length,rfl,ρ,G,Ex.refl _,R1,p0⟩,?_⟩
 rintro i m σ' H' ⟨hm,ρ',G',e',R',p⟩
 by_cases hi : i < ds.length
 ·refine .inr ⟨Y.go F G' H' σ' ρ' i e' R' hi,fun σ2 H2=>∃ ρ2 G2,Ex G G2 /\ RE K F G2 H2 σ2 ρ2 /\ P (i + 1) ρ2,fun σ2 H2 z=>⟨m - 1,by omega,by omega,z⟩,fun x H2 y=>?_⟩
  obtain ⟨G2,d,e2,R2,hd,hx⟩ := Y.yld F G' H' σ' ρ' i x H2 e' R' hi y
  refine turn i d ρ' hd p F G2 H2 σ' x R2 hx _ fun σ3 ρ3 G3 H3 e3 R3 w3=>?_
  refine w3 F G3 H3 σ3 _ R3 ⟨fun σ4 ρ4 G4 H4 e4 R4 p4=>⟨ρ4,G4,((e'.trans e2).trans e3).trans e4,R4,p4⟩,fun v d σ4 ρ4 G4 H4 e4 R4 hv r4=>?_,fun σ4 ρ4 G4 H4 e4 R4 p4=>?_,fun σ4 ρ4 G4 H4 e4 R4 p4=>⟨ρ4,G4,((e'.trans e2).trans e3).trans e4,R4,p4⟩,fun p d σ4 ρ4 G4 H4 e4 R4=>L.ro p d σ4 ρ4 G4 H4 (((e'.trans e2).trans e3).trans e4) R4,fun C f v d dx G4 H4 e4=>L.xx C f v d dx G4 H4 (((e'.trans e2).trans e3).trans e4)⟩
  ·exact L.rt v d σ4 ρ4 G4 H4 (((e'.trans e2).trans e3).trans e4) R4 hv r4
  ·exact L.nx σ4 ρ4 G4 H4 (((e'.trans e2).trans e3).trans e4) R4 p4
 ·have ei : i = ds.length := by omega
  subst ei
  exact .inl ⟨Y.stop F G' H' σ' ρ' e' R',L.nx σ' ρ' G' H' e' R' (fin ρ' p)⟩
theorem ps_or {X : Cx} {st : Stmt} {t u : TS} (h : PS X st t) (h' : PS X st u) : PS X st (fun D σ H=>t D σ H \/ u D σ H) :=
 ⟨fun pins s σ H D I q=>q.elim (fun q=>h.run pins s σ H D I q) fun q=>h'.run pins s σ H D I q⟩
theorem dput_le {κ : Type} [DecidableEq κ] (ps : List (κ × D)) (k : κ) (d : D) : (dput ps k d).length <= ps.length + 1 := by
 unfold dput
 split
 ·rw [List.length_map]; omega
 ·simp
def putD (f : Str) (d : D) : List (Str × D) -> List (Str × D)
 | []=>[(f,d)]
 | (g,x) :: r=>if g = f then (g,d) :: r else (g,x) :: putD f d r
theorem putF_rel {H : Hp} {f : Str} {v : V} {d : D} (hv : Rep K H v d) : ∀ {fs : List (Str × V)} {ps : List (Str × D)},fs.map (·.1) = ps.map (·.1) -> Reps K H (fs.map (·.2)) (ps.map (·.2)) ->
  (putF f v fs).map (·.1) = (putD f d ps).map (·.1) /\ Reps K H ((putF f v fs).map (·.2)) ((putD f d ps).map (·.2))
 | [],[],_,_=>⟨rfl,.cons hv .nil⟩
 | [],_ :: _,e,_=>by simp at e
 | _ :: _,[],e,_=>by simp at e
 | (g,x) :: fs,(g',y) :: ps,e,r=>by
  simp only [List.map_cons,List.cons.injEq] at e
  obtain ⟨rfl,e⟩ := e
  cases r with
  | cons r1 r2 =>
   unfold putF putD
   by_cases h : g = f
   ·rw [if_pos h,if_pos h]
    simp only [List.map_cons]
    exact ⟨by rw [e],.cons hv r2⟩
   ·rw [if_neg h,if_neg h]
    obtain ⟨i1,i2⟩ := putF_rel hv e r2
    simp only [List.map_cons]
    exact ⟨by rw [i1],.cons r1 i2⟩
theorem ws_fldset {i : Nat} {a : Addr} {C f : Str} (hc : Cls K (He.ga K C)) (hn : NoAttr K (He.ga K C) f) (h : EvW K tv ρ fun d ρ1=>∃ ps,ρ1[i]? = some (.own a (.ins C ps)) /\ ps.length < 1000 /\ E.nx (ρ1.set i (.own a (.ins C (putD f d ps))))) : WS K (sFld K (tVar i) tv f) ρ E := fun F G H σ Dn R L =>
 h F G H σ R _ fun v d ρ1 G1 H1 e1 R1 hv q=>by
  obtain ⟨ps,hi,hl,q⟩ := q
  obtain ⟨s,hs,rfl,hG,hF,dx,fs,hd,hk,hr⟩ := R1.sl.get hi
  obtain ⟨z1,z2⟩ := putF_rel (f := f) hv hk hr
  have hll : fs.length = ps.length := by have := congrArg List.length hk; simpa using this
  exact ⟨.ref a,hs,a,_,dx,fs,rfl,hd,hc,hn,by omega,L.nx _ _ G1 _ e1 (R1.mut (r' := .own a (.ins C (putD f d ps))) hi (List.mem_singleton.mpr rfl) (List.Sublist.refl _) hs ⟨rfl,hG,hF,dx,_,upd_same,z1,z2⟩) q⟩
def spI (K : PySem.W.Frag) (C : Str) (T : List D -> (D -> Prop) -> Prop) : Sp := fun vs H Q _=>∃ a dx ws F G ds Qd,vs = .ref a :: ws /\ Wd F G H /\ G a = none /\ F a = none /\ H a = some (.ins (He.ga K C) dx []) /\ Reps K G ws ds /\ T ds Qd ∧
 ∀ ps G' H',Ex G G' -> Wd F G' H' -> G' a = none -> OwnR K G' (H' a) (.ins C ps) -> Qd (.ins C ps) -> Q .non H'
structure FnI (P : Program) (w : World) (K : PySem.W.Frag) (mg : Str -> Option Value) (base : Heap) (k : Nat) (C : Str) (ps : List Str) (sp : Sp) : Prop where
 ex : ∃ f fd,FnOk P w K mg base CX0 k f fd ps sp /\ Binds K fd ps [] /\ Mk K (He.ga K C) f
 at_ : mg C = some (.ref (He.ga K C))
theorem pe_makeF {X : Cx} {k : Nat} {x : Str} {ps : List Str} {sp : Sp} {e : Expr} {es : List Expr} {t : TA} {p pos : Pos} (F : FnI X.prog X.w X.K X.mg X.base k x ps sp) (hr : Room (k + 1) X.A) (ha : PA X (e :: es) t) (hg : Gl X x := by rfl)
  (he : starEach (e :: es) X.env = (false,eval e X.env) :: starEach es X.env := by rfl) (hpl : (backTo pos (starEach es X.env)).any (·.1) = false := by rfl) (hd : (x == ("__debug__" : Str)) = false := by decide) : PE X (.Call (.Name x p) (e :: es) [] pos) (tMake (He.ga X.K x) sp [] E0 t) := by
 obtain ⟨f,fd,h1,h2,h3⟩ := F.ex
 exact pe_make h3 h1 hr hg F.at_ h2 .nil pass0 ha hd he hpl
theorem ew_make {C : Str} {T : List D -> (D -> Prop) -> Prop} {E : XK} (h : EvA K ts ρ fun ds ρ1=>T ds fun d=>Q d ρ1) : EvW K (tMake (He.ga K C) (spI K C T) [] E ts) ρ Q := fun F G H σ R Q' k =>
 h F G H σ R _ fun vs ds ρ1 G1 H1 e1 R1 hv q=>fun x dx hx hdx hne=>by
  have hx2 : upd H1 dx (.own x) x = none := by rw [upd_ne (Ne.symm hne)]; exact hx
  have W := R1.wdF (as := ownA ρ1) (fun _ m=>m)
  have ex2 : Ex H1 (upd (upd H1 dx (.own x)) x (.ins (He.ga K C) dx [])) := (Ex.new hdx).trans (Ex.new hx2)
  have nx := ownA_fresh R1 hx
  have hFx := R1.wd.f.none hx
  refine ⟨x,dx,vs,addF F H1 (ownA ρ1),G1,ds,_,by rw [List.append_nil],⟨W.f.trans ex2,W.g.trans ex2,W.fg,W.ft,W.tb.step (fun _ _ z=>z) fun t ht=>⟨by rw [upd_ne (W.tb.neN hx t ht),upd_ne (W.tb.neN hdx t ht)],(W.tb t ht).1,(W.tb t ht).2.1⟩⟩,R1.wd.g.none hx,by rw [addF_out nx]; exact hFx,upd_same,hv,q,fun ps G' H' e W' hG o qd=>⟨rfl,?_⟩⟩
  have R2 := R1.back W' e
  obtain ⟨u,hu,hmu⟩ := o.some
  exact k (.ref x) (.ins C ps) ρ1 (upd G' x u) H' ((e1.trans e).trans (Ex.new hG)) (R2.share hu hG hFx nx (nt_mut hmu).2) (ownR_rep o (by rw [upd_same,hu]) (Ex.new hG)) qd
theorem fn_I {P : Program} {w : World} {mg : Str -> Option Value} {base : Heap} {x qual C : Str} {params : Arguments} {body : List Stmt} {scope : Scope} {f : Addr} {fd : FuncData} {N ps : List Str} {k : Nat} {T : List D -> (D -> Prop) -> Prop}
  (F : FunD K x qual params body scope [] [] f fd) (M : Mk K (He.ga K C) f) (at_ : mg C = some (.ref (He.ga K C)))
  (bi : ∀ (kV doc pm : Value) (an : Option Addr) (cdv ct : Value) (us : List Value),us.length = ps.length -> bindArgs (PySem.W.fnOf x qual params body scope .none kV doc pm an cdv ct) ⟨us,[]⟩ = pure (ps.zip us))
  (S : FnScope N ps scope) (hN : N ≠ []) (hl : ∀ ds Qd,T ds Qd -> ds.length + 1 = ps.length)
  (hb : ∀ (cdv : Value) (A : Around) (outer : List PySem.Env) (s : Shared) (H : Hp) (E : XK),Room k (A.deeper (envOfC qual scope s.heap.objs.size f cdv)) ->
   ∃ t,PSs (cxOf CX0 P w K mg base N qual scope f cdv A outer s H E).nox body t /\ ∀ a ds Qd,T ds Qd -> WS K t (Sl.own a (.ins C []) :: (ds.map Sl.sh ++ List.replicate (N.length - 1 - ds.length) Sl.un)) { nx := fun ρ=>∃ ps,ρ[0]? = some (.own a (.ins C ps)) /\ Qd (.ins C ps),rt := fun d ρ=>False }) :
  FnI P w K mg base (k + 1) C ps (spI K C T) := by
 refine ⟨⟨f,fd,F.ok S (fun vs H Q E h=>?_) (fun cdv A outer s H vs Q E hr h=>?_),F.bindsN bi,M⟩,at_⟩
 ·obtain ⟨a,dx,ws,_,_,ds,Qd,rfl,_,_,_,_,r,t,_⟩ := h
  rw [List.length_cons,r.length]; exact hl ds Qd t
 ·obtain ⟨a,dx,ws,F',G,ds,Qd,rfl,W,hG,hF,hD,r,tt,post⟩ := h
  obtain ⟨t,hd,hw⟩ := hb cdv A outer s H E hr
  refine ⟨t,PSs.nox hd,?_⟩
  have es : L2.start N (.ref a :: ws) = some (.ref a) :: (ws.map some ++ List.replicate (N.length - 1 - ws.length) none) := by
   unfold L2.start
   simp only [List.map_cons,List.cons_append,List.length_cons]
   rw [show N.length - (ws.length + 1) = N.length - 1 - ws.length by omega]
  have R : RE K F' G H (L2.start N (.ref a :: ws)) (Sl.own a (.ins C []) :: (ds.map Sl.sh ++ List.replicate (N.length - 1 - ds.length) Sl.un)) := by
   rw [es]
   refine ⟨W,⟨⟨rfl,hG,hF,dx,[],hD,rfl,.nil⟩,by rw [r.length]; exact slots_start _ r⟩,?_⟩
   show (a :: ownA (ds.map Sl.sh ++ List.replicate (N.length - 1 - ds.length) Sl.un)).Nodup
   rw [own_start]
   simp
  refine hw a ds Qd tt F' G H _ _ R ⟨fun σ' ρ' G' H' e R' q=>?_,fun v d σ' ρ' G' H' e R' hv q=>q.elim,fun σ' ρ' G' H' e R' q=>q.elim,fun σ' ρ' G' H' e R' q=>q.elim,fun p d σ' ρ' G' H' e R' _ _ _ _ q=>q.elim,fun C f v d dx G' H' _ _ _ _ _ _ q=>q.elim⟩
  obtain ⟨ps',h0,qd⟩ := q
  obtain ⟨_,_,_,z1,_,z2⟩ := R'.sl.get h0
  exact post ps' G' H' e R'.wd z1 z2 qd
end
end DL
set_option maxHeartbeats 2000000
namespace EXS
open PySem PySem.W PySem.Calls PySem.Spec PyProof.Rows
structure ScOk (sc : Scope) (x : Str) : Prop where
 sup : sc.names.lookup ("super" : Str) = some .globalImplicit
 cls : sc.names.lookup ("__class__" : Str) = some .free
 slf : sc.names.lookup ("self" : Str) = some .local
 arg : sc.names.lookup x = some .local
 nc : ∀ y ∈ sc.names,y.2 ≠ .cell
 kind : sc.kind = .function
 co : sc.isCoroutine = false
 gen : sc.isGenerator = false
 ne : x ≠ "self"
 nd : (x == ("__debug__" : Str)) = false
abbrev supBody (x f : Str) (p0 p1 p2 p3 p4 p5 p6 p7 p8 p9 : Pos) : List Stmt :=
 [.Expr (.Call (.Attribute (.Call (.Name "super" p0) [] [] p1) "__init__" p2) [.Name x p3] [] p4) p5,.Assign [.Attribute (.Name "self" p6) f p7] (.Name x p8) p9]
def BindX (x : Str) : Prop := ∀ (qual : Str) (a1 a2 : Option Expr) (q1 q2 : Pos) (body : List Stmt) (scope : Scope) (kV doc pm : Value) (an : Option Addr) (cdv ct : Value) (cc : Addr) (a b : Value),
 bindArgs (ksFn "__init__" qual ⟨[],[⟨"self",a1,q1⟩,⟨x,a2,q2⟩],none,[],[],none,[]⟩ body scope .none kV doc pm an cdv ct cc) ⟨[a,b],[]⟩ = pure ([("self",a),(x,b)] : List (Str × Value))
def BindA (x : Str) (ar : Args) (a b : Value) : Prop := ∀ (qual : Str) (a1 a2 : Option Expr) (q1 q2 : Pos) (body : List Stmt) (scope : Scope) (kV doc pm : Value) (an : Option Addr) (cdv ct : Value) (cc : Addr),
 bindArgs (ksFn "__init__" qual ⟨[],[⟨"self",a1,q1⟩,⟨x,a2,q2⟩],none,[],[],none,[]⟩ body scope .none kV doc pm an cdv ct cc) ar = pure ([("self",a),(x,b)] : List (Str × Value))
structure SupC (K : Frag) (prog : Program) (C fI : Addr) (x f : Str) : Prop where
 oex : L2.OexC K C
 init : findIn K (.ref C) "__init__" = some (some (.ref fI))
 ty : typeIn K (.ref fI) = some (.type "function")
 no : findIn K (.ref C) f = some none
 fn : ∃ (oc : Value) (od : Option Addr) (osl : Array (Option Value)) (qual : Str) (scope : Scope) (kV doc pm : Value) (an : Option Addr) (cda cc : Addr) (ct : Value) (a1 a2 : Option Expr) (q1 q2 p0 p1 p2 p3 p4 p5 p6 p7 p8 p9 : Pos),
  K.lookup fI = some ⟨oc,od,.func (ksFn "__init__" qual ⟨[],[⟨"self",a1,q1⟩,⟨x,a2,q2⟩],none,[],[],none,[]⟩ (supBody x f p0 p1 p2 p3 p4 p5 p6 p7 p8 p9) scope .none kV doc pm an (.ref cda) ct cc),osl⟩ ∧
  codeIn K (.ref cda) qual = true /\ (∃ ccl cdd vs ccs file tf,K.lookup cda = some ⟨ccl,cdd,.fields vs,ccs⟩ /\ vs[2]? = some (.str file tf) /\ ((prog.main.file : Str) == file) = true) ∧
  (∃ cl cld csl,K.lookup cc = some ⟨cl,cld,.cell (some (.ref C)),csl⟩) /\ ScOk scope x /\ (p2.endLine == p4.line) = true
 bi : BindX x
 own : mroIn K C (.ref C) = some true
 top : (prog.main.scope.names.lookup ("super" : Str)).isSome = false
 sup : ks_superIn K C C "__init__" = some (some (.builtin "ValueError.__init__"))
 sub : subIn K (.ref C) (.type "ValueError") = some true
 st : nsIn K cStatics "thirdparty.any" = some none
section
variable {prog : Program} {w : World} {A : Around} {R : Result -> Shared -> Prop} {hp : Heap} {g : Array GenState} {d : Drawn} {t : Nat} {os : OsState} {K : Frag} {C fI e t0 : Addr} {x f : Str} {u : Value} {mg mb : Str -> Option Value}
theorem call_sup {E : Value -> Shared -> Prop} {nm q : Str} {N : Addr} {bs bm : List Value} {hdct : Bool} {sn : List Str} {sub : List Value} {ab : Bool} {col : Option Bool} {dd : Option Addr} {k0 k1 k2 k3 k5 : Option Value} {v : Addr} {rest : List Value} {Q : Value -> Shared -> Prop}
  (hC : hp.get? C = some (excClassObj nm q C N bs bm hdct sn sub ab col dd k0 k1 k2 k3 k5 "ValueError.__new__")) (he : hp.get? e = some (HandSPX.excO C t0)) (hv : hp.get? v = some (kxs_mw "ValueError.__init__" e)) (hz : rest.length <= sizeLine)
  (hq : ∀ h' t1,(∀ b o,b ≠ e -> hp.get? b = some o -> h'.get? b = some o) -> h'.get? e = some (HandSPX.excO C t1) -> Q .none ⟨h',g,d,t,os⟩) : wpAny (model prog w) A (call (.ref v) rest) Q E ⟨hp,g,d,t,os⟩ := by
 refine wpAny_call (codeAny_of_tree ?_)
 show wpAny _ A.in1 (callAny (.ref v) ⟨rest,[]⟩) _ _ _
 simp only [callAny]
 refine wpAny_bind (wpAny_load hv ?_)
 simp only [kxs_mw,show (Value.type "method-wrapper" == Value.type "method" || Value.type "method-wrapper" == Value.type "builtin_function_or_method" || Value.type "method-wrapper" == Value.type "method-wrapper") = true by decide,if_true]
 refine KFB.if_so (by decide) ?_
 refine wpAny_bind (check_bound_init F.excBase_ValueError.toExcCallFacts hC he rfl ?_)
 refine wpAny_bind (wpAny_pure (wpAny_pure ?_))
 refine ⟨plainId_quiet F.excBase_ValueError.init.plain _,codeAny_builtin F.excBase_ValueError.initEntry ?_⟩
 exact exc_init_tree (cls := .ref C) (t0 := t0) (dv := none) (c2 := .none) (c3 := .none) (b4 := .bool false) he hz fun h' k e' _=>hq h' _ k e'
theorem wpAt_method1 {M : Model} {c : Code} {E : Value -> Shared -> Prop} {s : Shared} {env : Env} {o ex : Expr} {name : Str} {apos pos : Pos} {Q : Value -> Shared -> Prop} (hline : (apos.endLine == pos.line) = true) (hst : starEach [ex] env = [(false,eval ex env)])
  (h : PySem.wpAt M A c (attributeBase o name env (eval o env)) (fun ov s₁=>∀ pl,wpAny M A (getMethod ov name pl) (fun fx s₂=>wpAny M A (callWith pos fx.1 fx.2 (backTo pos (starEach [ex] env)) []) Q E s₂) E s₁) E s) :
  PySem.wpAt M A c (eval (.Call (.Attribute o name apos) [ex] [] pos) env) Q E s := by
 rw [arm_eval_Call]
 refine PySem.wpAt_bind (PySem.wpAt_mono h (fun ov s₁ h₁=>PySem.wpAt_of_wpAny (wpAny_bind (wpAny_standAt ?_))) fun _ _ e=>e)
 have hform : methodCallForm ([ex].length + ([] : List Keyword).length) (backTo pos (starEach [ex] env)) (backToKw pos (keywordEach [] env)) = true := by rw [hst]; rfl
 have hpos : methodCallPos true o env apos pos = pure pos := by unfold methodCallPos; simp [hline]
 unfold methodCall
 rw [hform]
 refine wpAny_bind (wpAny_holding (wpAny_mono (h₁ _) (fun fx s₂ h₂=>?_) fun _ _ e=>e))
 exact wpAny_bind (wpAny_of_eq hpos h₂)
theorem init_supA {ar : Args} (hbi : BindA x ar (.ref e) u) (S : SupC K prog C fI x f) (X : K.In hp) (lim : hp.NoLimit) (hg : hp.Ns mainGlobals mg) (hb : hp.Ns builtinsNs mb) (hbo : mb "super" = bootBuiltins "super") (hsu : mg "super" = none) (hroom : A.depth < recursionLimit)
  (he : hp.get? e = some (HandSPX.excO C t0)) (hKe : K.lookup e = none)
  (hq : ∀ h' tk' dx t1,(∀ b o,b ≠ e -> hp.get? b = some o -> h'.get? b = some o) -> hp.objs.size <= dx -> dx ≠ e -> h'.get? e = some ({ cls := .ref C,dict := some dx,data := .fields #[.ref t1,.none,.none,.none,.bool false,.none] } : Obj) ->
   h'.Ns1 dx (fun y=>if y = f then some u else none) -> R (.ok (.ret .none)) ⟨h',g,d,tk',os⟩) :
  codeAny (model prog w) A (.call (.ref fI) ar) R ⟨hp,g,d,t,os⟩ := by
 obtain ⟨oc,od,osl,qual,scope,kV,doc,pm,an,cda,cc,ct,a1,a2,q1,q2,p0,p1,p2,p3,p4,p5,p6,p7,p8,p9,lk,hcd,⟨ccl,cdd,vs,ccs,file,tf,hcode,hvs,hfile⟩,⟨cl,cld,csl,hcell⟩,sc,hline⟩ := S.fn
 obtain ⟨nm,q,N,bs,bm,sn,sub,ab,col,dd,k0,k1,k2,k3,k5,hC,hbm⟩ := S.oex.cls
 have hcl : clsIn K C = some { name := nm,bases := bs,mro := .ref C :: bm,ns := N,qualname := q,hasDict := true,slotNames := sn,subclasses := sub,abstract := ab,collection := col,hasDel := false } := by unfold clsIn; rw [hC] <;> rfl
 refine ks_codeAny_call_defAt (fd := ksFn "__init__" qual ⟨[],[⟨"self",a1,q1⟩,⟨x,a2,q2⟩],none,[],[],none,[]⟩ (supBody x f p0 p1 p2 p3 p4 p5 p6 p7 p8 p9) scope .none kV doc pm an (.ref cda) ct cc) (body := supBody x f p0 p1 p2 p3 p4 p5 p6 p7 p8 p9) (binds := [("self",.ref e),(x,u)])
  hroom (X _ _ lk) rfl lim (codeRec_of X hcd) rfl (.of_eq (hbi _ _ _ _ _ _ _ _ _ _ _ _ _ _)) sc.nc (fun y hy=>?_) (fun h1 hns hk1=>?_) sc.co sc.gen sc.kind
 ·simp only [List.mem_cons,List.not_mem_nil,or_false] at hy
  rcases hy with rfl | rfl
  ·exact sc.slf
  ·exact sc.arg
 have X1 : K.In h1 := X.keeps hk1
 have vself : ([("self",Value.ref e),(x,u)] : List (Str × Value)).reverse.lookup ("self" : Str) = some (Value.ref e) := by
  show List.lookup ("self" : Str) [(x,u),("self",.ref e)] = _
  rw [List.lookup_cons,show (("self" : Str) == x) = false by simpa using Ne.symm sc.ne]
  rfl
 have varg : ([("self",Value.ref e),(x,u)] : List (Str × Value)).reverse.lookup x = some u := by
  show List.lookup x [(x,u),("self",.ref e)] = _
  rw [List.lookup_cons,beq_self_eq_true]
 have he1 := hk1 _ _ he
 obtain ⟨oD,hD1,hD2⟩ : ∃ oD,h1.get? C = some oD /\ ∃ cd,oD.data = .cls cd := ⟨_,X1 _ _ hC,_,rfl⟩
 obtain ⟨cdD,hD2⟩ := hD2
 refine ks_wpAt_execs_cons (ks_wpAt_Expr_any (wpAt_method1 hline rfl ?_) (by show ((scope.kind == .module) && _) = false; rw [sc.kind]; rfl))
 refine ks_wpAt_super_base (fd := ksFn "__init__" qual ⟨[],[⟨"self",a1,q1⟩,⟨x,a2,q2⟩],none,[],[],none,[]⟩ (supBody x f p0 p1 p2 p3 p4 p5 p6 p7 p8 p9) scope .none kV doc pm an (.ref cda) ct cc) sc.sup sc.cls (by decide +kernel) rfl (X1 _ _ lk) rfl rfl rfl (X1 _ _ hcode) rfl hvs hfile S.top ?_
 refine ks_loadName_global sc.kind sc.sup (loadGlobal_builtin (hg.keeps hk1) hsu (hb.keeps hk1) (hbo.trans (by rfl)) ⟨rfl,?_⟩)
 refine wpAny_loadName_free sc.kind sc.cls rfl ⟨_,X1 _ _ hcell,rfl⟩ ?_
 refine wpAny_loadName_local sc.kind sc.slf hns vself ?_
 refine ks_wpAny_isType_cls hD1 hD2 ⟨rfl,?_⟩
 refine ks_wpAny_call_super hD1 hD2 he1 rfl (fun c z=>by cases z) (looks_mroIn X1 S.own) (fun h2 hso k2 pl=>?_)
 have X2 : K.In h2 := X1.keeps k2
 have he2 := k2 _ _ he1
 have I2 : InstAt h2 e (HandSPX.excO C t0) C none := ⟨he2,rfl,rfl,trivial⟩
 have hsup : alongIn K "__init__" (((Value.ref C :: bm).dropWhile (· != .ref C)).drop 1) = some (some (.builtin "ValueError.__init__")) := by
  have z := S.sup
  unfold ks_superIn at z
  rw [hcl] at z
  exact z
 refine kxs_getMethod kxs_ValueError hso (looks_opaque X2 S.st) (l₀ := .ref C :: bm) (fun A Q E s k q=>wpAny_bind ((looks_clsIn X2 hcl) A _ E s k (wpAny_pure q))) rfl X2 hsup (I2.type.andThen (looks_subIn X2 S.sub)) (ks_ne X2 I2 hcl) (by decide +kernel) ?_
 have kp : ∀ b o,h2.get? b = some o -> (h2.push (kxs_mw "ValueError.__init__" e)).get? b = some o := fun b o z=>Heap.get?_push_of_some _ z
 have k3 : ∀ b o,h1.get? b = some o -> (h2.push (kxs_mw "ValueError.__init__" e)).get? b = some o := fun b o z=>kp _ _ (k2 _ _ z)
 refine kxs_callWith (i := "ValueError.__init__") (x := e) rfl (evalArgs_plain (spliced_cons (wpAny_Name (wpAny_loadName_local sc.kind sc.arg (hns.keeps k3) varg (spliced_nil ?_)) sc.nd)))
 refine ⟨Heap.get?_push_size _ rfl,?_⟩
 refine call_sup (X1.keeps k3 _ _ hC) (k3 _ _ he1) (Heap.get?_push_size _ rfl) (by show 1 <= sizeLine; decide) fun h4 t1 k4 he4=>?_
 have ne1 : hp.objs.size ≠ e := fun z=>by
  have y := Heap.lt_size he
  rw [z] at y
  exact absurd y (Nat.lt_irrefl _)
 have k5 : ∀ b o,b ≠ e -> h1.get? b = some o -> h4.get? b = some o := fun b o hb z=>k4 b o hb (k3 b o z)
 have hns4 : h4.Ns hp.objs.size (fun y=>([("self",Value.ref e),(x,u)] : List (Str × Value)).reverse.lookup y) := by
  obtain ⟨oL,es,ep,hL,r⟩ := hns
  exact ⟨oL,es,ep,k5 _ _ ne1 hL,r⟩
 have X4 : K.In h4 := fun b o z=>k5 b o (fun y=>by rw [y,hKe] at z; cases z) (X1 _ _ z)
 refine ks_wpAt_execs_cons (ks_wpAt_Assign_Attr (PySem.wpAt_of_wpAny (wpAny_Name (wpAny_loadName_local sc.kind sc.arg hns4 varg ?_) sc.nd)))
 refine wpAny_Name (wpAny_loadName_local sc.kind sc.slf hns4 vself ?_) (by decide +kernel)
 refine set_plain X4 (ox := HandSPX.excO C t1) (od := none) ⟨he4,rfl,rfl,trivial⟩ S.oex.sa ?_
 refine HandSPX.exc_osa X4 he4 hcl (show HandSPX.refsVE (.ref C :: bm) = true from hbm) rfl S.no (fun h' tk' dx k dn dne hx hn=>?_)
 refine PySem.wpAt_of_wpAny (wpAny_pure ?_)
 refine hq h' tk' dx t1 (fun b o hb z=>k b o hb (k5 b o hb (hk1 b o z))) ?_ dne hx hn
 obtain ⟨oL,es,ep,hL,r⟩ := hns4
 exact Nat.le_trans (Nat.le_of_lt (Heap.lt_size hL)) dn
theorem init_sup (S : SupC K prog C fI x f) (X : K.In hp) (lim : hp.NoLimit) (hg : hp.Ns mainGlobals mg) (hb : hp.Ns builtinsNs mb) (hbo : mb "super" = bootBuiltins "super") (hsu : mg "super" = none) (hroom : A.depth < recursionLimit)
  (he : hp.get? e = some (HandSPX.excO C t0)) (hKe : K.lookup e = none)
  (hq : ∀ h' tk' dx t1,(∀ b o,b ≠ e -> hp.get? b = some o -> h'.get? b = some o) -> hp.objs.size <= dx -> dx ≠ e -> h'.get? e = some ({ cls := .ref C,dict := some dx,data := .fields #[.ref t1,.none,.none,.none,.bool false,.none] } : Obj) ->
   h'.Ns1 dx (fun y=>if y = f then some u else none) -> R (.ok (.ret .none)) ⟨h',g,d,tk',os⟩) :
  codeAny (model prog w) A (.call (.ref fI) ⟨[.ref e,u],[]⟩) R ⟨hp,g,d,t,os⟩ := init_supA (fun _ _ _ _ _ _ _ _ _ _ _ _ _ _=>S.bi _ _ _ _ _ _ _ _ _ _ _ _ _ _ _ _) S X lim hg hb hbo hsu hroom he hKe hq
end
end EXS
namespace L2
open PySem PySem.W PySem.Calls PySem.Spec PyProof.Rows
def tMkS (C : Addr) (f : Str) (te : TE) : St -> Hp -> XK -> Prop := fun σ H Q=>te σ H fun v H1=>∀ d,H1 d = none -> Q (.ref C) (some d) (upd H1 d (.xd [(f,v)]))
theorem pmk_sup {X : Cx} {n : Str} {e : Expr} {te : TE} {p pos : Pos} {C fI : Addr} {x f : Str} {k : Nat} (S : EXS.SupC X.K X.prog C fI x f) (hr : Room (k + 1) X.A) (hg : Gl X n) (hm : X.mg n = some (.ref C)) (hsu : X.mg "super" = none) (he : PE X e te)
  (hdb : (n == ("__debug__" : Str)) = false := by decide) (hst : starEach [e] X.env = (false,eval e X.env) :: starEach [] X.env := by rfl) : PMk X (.Call (.Name n p) [e] [] pos) (tMkS C f te) := by
 intro pins s σ H Q I h
 obtain ⟨nm,q,N,bs,bm,sn,sub,ab,col,dd,k0,k1,k2,k3,k5,hC,hbm⟩ := S.oex.cls
 refine wpAny_Call_Name_kw (ld_glob I hg hm ?_ hdb)
 refine callWith_K (h₀ := X.base) I.ok.mod.kin S.oex.kC (thn ((pa_cons he pa_nil hst).run pos pins s σ H (fun vs H1=>match vs with
  | [v]=>∀ d,H1 d = none -> Q (.ref C) (some d) (upd H1 d (.xd [(f,v)]))
  | _=>False) I h) fun us s1 ⟨vs,H1,I1,r1,q1⟩=>⟨I1.kIn,?_⟩) hst rfl
 cases vs with
 | nil=>exact q1.elim
 | cons v vs =>
  cases vs with
  | cons _ _=>exact q1.elim
  | nil =>
   obtain ⟨u,rfl,ru⟩ := r1.one
   show wpAny _ _ (call (.ref C) [u]) _ _ _
   obtain ⟨mb,hb1,hb2⟩ := I1.ok.mod.blt
   have bk := I1.bk
   obtain ⟨hp,g,dr,tk,os⟩ := s1
   have kk : ∀ b o,hp.get? b = some o -> ((hp.push (kdv_tup [u])).push (HandSPX.excO C hp.objs.size)).get? b = some o := fun b o e=>Heap.get?_push_of_some _ (Heap.get?_push_of_some _ e)
   have hget : ((hp.push (kdv_tup [u])).push (HandSPX.excO C hp.objs.size)).get? (hp.objs.size + 1) = some (HandSPX.excO C hp.objs.size) := by heap_get
   have nK : X.K.lookup (hp.objs.size + 1) = none := by
    cases z : X.K.lookup (hp.objs.size + 1) with
    | none=>rfl
    | some o=>exact absurd (show hp.objs.size + 1 < hp.objs.size from Heap.lt_size (I1.kIn _ _ z)) (Nat.not_lt_of_le (Nat.le_succ _))
   have nge : hp.get? (hp.objs.size + 1) = none := by
    cases z : hp.get? (hp.objs.size + 1) with
    | none=>rfl
    | some o=>exact absurd (show hp.objs.size + 1 < hp.objs.size from Heap.lt_size z) (Nat.not_lt_of_le (Nat.le_succ _))
   refine wpAny_call (HandSPX.call_own F.excBase_ValueError (fun Y=>HandSPX.refsVE_contains Y bm hbm) (I1.kIn _ _ hC) (looks_findIn I1.kIn S.init) (fun self=>bind_fn I1.kIn self S.ty) (by show 1 <= sizeLine; decide) ?_)
   refine EXS.init_sup S (I1.kIn.keeps kk) ((I1.ok.mod.nolimit.keeps bk).keeps kk) ((I1.ok.mod.glob.keeps bk).keeps kk) ((hb1.keeps bk).keeps kk) (hb2 _ (by decide)) hsu ?_ hget nK fun h' tk' dx t1 k dn dne hx hn=>?_
   ·exact (hr.make C [u] []).depth
   ·refine ⟨rfl,?_⟩
    obtain ⟨G,g1,g2⟩ := restrict h' fun b=>decide (b ≠ hp.objs.size + 1)
    have gk : ∀ b,b ≠ hp.objs.size + 1 -> G.get? b = h'.get? b := fun b hb=>g1 b (decide_eq_true hb)
    have ge : G.get? (hp.objs.size + 1) = none := g2 _ (by simp)
    have hsz : ((hp.push (kdv_tup [u])).push (HandSPX.excO C hp.objs.size)).objs.size = hp.objs.size + 2 := by rw [Heap.size_push,Heap.size_push]
    have dn2 : hp.objs.size <= dx := by
     have z : ((hp.push (kdv_tup [u])).push (HandSPX.excO C hp.objs.size)).objs.size <= dx := dn
     rw [hsz] at z
     omega
    have J : Inv X pins σ (upd H1 dx (.xd [(f,v)])) ⟨G,g,dr,tk',os⟩ := I1.laid (t' := tk') (a := dx) (o := .xd [(f,v)]) (h' := G) (fun b o z=>by
      have hb : b ≠ hp.objs.size + 1 := fun y=>by rw [y,nge] at z; cases z
      rw [gk b hb]
      exact k b o hb (kk b o z)) dn2 ⟨_,hn.at fun o z=>(gk dx dne).trans z,relO_put (fs := []) ru fun _=>trivial⟩
    refine ⟨hp.objs.size + 1,_,_,⟨G,g,dr,tk',os⟩,_,.ref C,some dx,rfl,J,fun b o z=>?_,ge,hx,⟨rfl,rfl⟩,rfl,rfl,?_,rfl,I1.bare,raises_own S.oex.exC S.oex.tyC,q1 dx (I1.hok.fresh dn2)⟩
    ·by_cases hb : b = hp.objs.size + 1
     ·rw [hb,ge] at z; cases z
     ·exact (gk b hb).symm.trans z
    ·rw [upd_ne (Ne.symm dne)]
     exact I1.hok.fresh (Nat.le_succ _)
end L2
namespace EXS
open PySem PySem.W PySem.Calls PySem.Spec PyProof.Rows
theorem and2 {a b : Bool} (h : (a && b) = true) : a = true /\ b = true := by simpa using h
def scB (sc : Scope) (x : Str) : Bool := decide (sc.names.lookup ("super" : Str) = some .globalImplicit) && (decide (sc.names.lookup ("__class__" : Str) = some .free) && (decide (sc.names.lookup ("self" : Str) = some .local) && (decide (sc.names.lookup x = some .local) &&
 (sc.names.all (fun y=>decide (y.2 ≠ .cell)) && (decide (sc.kind = .function) && (decide (sc.isCoroutine = false) && (decide (sc.isGenerator = false) && (decide (x ≠ "self") && decide ((x == ("__debug__" : Str)) = false)))))))))
theorem scB_ok {sc : Scope} {x : Str} (h : scB sc x = true) : ScOk sc x := by
 unfold scB at h
 obtain ⟨h1,h⟩ := and2 h
 obtain ⟨h2,h⟩ := and2 h
 obtain ⟨h3,h⟩ := and2 h
 obtain ⟨h4,h⟩ := and2 h
 obtain ⟨h5,h⟩ := and2 h
 obtain ⟨h6,h⟩ := and2 h
 obtain ⟨h7,h⟩ := and2 h
 obtain ⟨h8,h⟩ := and2 h
 obtain ⟨h9,h10⟩ := and2 h
 exact ⟨of_decide_eq_true h1,of_decide_eq_true h2,of_decide_eq_true h3,of_decide_eq_true h4,fun y hy=>of_decide_eq_true (List.all_eq_true.mp h5 y hy),of_decide_eq_true h6,of_decide_eq_true h7,of_decide_eq_true h8,of_decide_eq_true h9,of_decide_eq_true h10⟩
def bodyB (x f : Str) : List Stmt -> Bool
 | [.Expr (.Call (.Attribute (.Call (.Name s _) [] [] _) i p2) [.Name y _] [] p4) _,.Assign [.Attribute (.Name sf _) g _] (.Name z _) _] =>
  decide (s = "super") && (decide (i = "__init__") && (decide (y = x) && (decide (sf = "self") && (decide (g = f) && (decide (z = x) && (p2.endLine == p4.line))))))
 | _=>false
theorem bodyB_ok {x f : Str} {b : List Stmt} (h : bodyB x f b = true) : ∃ p0 p1 p2 p3 p4 p5 p6 p7 p8 p9,b = supBody x f p0 p1 p2 p3 p4 p5 p6 p7 p8 p9 /\ (p2.endLine == p4.line) = true := by
 unfold bodyB at h
 split at h
 ·obtain ⟨h1,h⟩ := and2 h
  obtain ⟨h2,h⟩ := and2 h
  obtain ⟨h3,h⟩ := and2 h
  obtain ⟨h4,h⟩ := and2 h
  obtain ⟨h5,h⟩ := and2 h
  obtain ⟨h6,h7⟩ := and2 h
  have h1 := of_decide_eq_true h1
  have h2 := of_decide_eq_true h2
  have h3 := of_decide_eq_true h3
  have h4 := of_decide_eq_true h4
  have h5 := of_decide_eq_true h5
  have h6 := of_decide_eq_true h6
  subst h1 h2 h3 h4 h5 h6
  exact ⟨_,_,_,_,_,_,_,_,_,_,rfl,h7⟩
 ·cases h
def parB (x : Str) : Arguments -> Bool
 | ⟨[],[⟨a,_,_⟩,⟨b,_,_⟩],none,[],[],none,[]⟩=>decide (a = "self") && decide (b = x)
 | _=>false
theorem parB_ok {x : Str} {p : Arguments} (h : parB x p = true) : ∃ a1 a2 q1 q2,p = ⟨[],[⟨"self",a1,q1⟩,⟨x,a2,q2⟩],none,[],[],none,[]⟩ := by
 unfold parB at h
 split at h
 ·obtain ⟨h1,h2⟩ := and2 h
  have h1 := of_decide_eq_true h1
  have h2 := of_decide_eq_true h2
  subst h1 h2
  exact ⟨_,_,_,_,rfl⟩
 ·cases h
def fileB (K : Frag) (file : Str) (c : Addr) : Bool := match K.lookup c with
 | some ⟨_,_,.fields vs,_⟩=>(match (vs[2]? : Option Value) with | some (.str n _)=>decide (n = file) | _=>false)
 | _=>false
theorem fileB_ok {K : Frag} {file : Str} {c : Addr} (h : fileB K file c = true) : ∃ ccl cdd vs ccs tf,K.lookup c = some ⟨ccl,cdd,.fields vs,ccs⟩ /\ vs[2]? = some (.str file tf) := by
 unfold fileB at h
 split at h
 ·rename_i a b vs d e
  split at h
  ·rename_i n t e2
   have := of_decide_eq_true h
   subst this
   exact ⟨_,_,_,_,_,e,e2⟩
  ·cases h
 ·cases h
def cellB (K : Frag) (C c : Addr) : Bool := match K.lookup c with
 | some ⟨_,_,.cell (some (.ref D)),_⟩=>decide (D = C)
 | _=>false
theorem cellB_ok {K : Frag} {C c : Addr} (h : cellB K C c = true) : ∃ cl cld csl,K.lookup c = some ⟨cl,cld,.cell (some (.ref C)),csl⟩ := by
 unfold cellB at h
 split at h
 ·rename_i a b D d e
  have := of_decide_eq_true h
  subst this
  exact ⟨_,_,_,e⟩
 ·cases h
def noneB : Value -> Bool
 | .none=>true
 | _=>false
def fnB (K : Frag) (file : Str) (C fI : Addr) (x f : Str) : Bool := match K.lookup fI with
 | some ⟨_,_,.func ⟨name,qual,params,.stmts body,scope,gl,[(n,cc)],dV,_,_,_,_,.ref cda,_,bl⟩,_⟩ =>
  decide (name = "__init__") && (decide (n = "__class__") && (decide (gl = mainGlobals) && (decide (bl = builtinsNs) && (noneB dV && (parB x params && (bodyB x f body && (scB scope x && (codeIn K (.ref cda) qual && (fileB K file cda && cellB K C cc)))))))))
 | _=>false
theorem fnB_ok {K : Frag} {prog : Program} {C fI : Addr} {x f : Str} (h : fnB K prog.main.file C fI x f = true) : ∃ (oc : Value) (od : Option Addr) (osl : Array (Option Value)) (qual : Str) (scope : Scope) (kV doc pm : Value) (an : Option Addr) (cda cc : Addr) (ct : Value) (a1 a2 : Option Expr) (q1 q2 p0 p1 p2 p3 p4 p5 p6 p7 p8 p9 : Pos),
  K.lookup fI = some ⟨oc,od,.func (ksFn "__init__" qual ⟨[],[⟨"self",a1,q1⟩,⟨x,a2,q2⟩],none,[],[],none,[]⟩ (supBody x f p0 p1 p2 p3 p4 p5 p6 p7 p8 p9) scope .none kV doc pm an (.ref cda) ct cc),osl⟩ ∧
  codeIn K (.ref cda) qual = true /\ (∃ ccl cdd vs ccs file tf,K.lookup cda = some ⟨ccl,cdd,.fields vs,ccs⟩ /\ vs[2]? = some (.str file tf) /\ ((prog.main.file : Str) == file) = true) ∧
  (∃ cl cld csl,K.lookup cc = some ⟨cl,cld,.cell (some (.ref C)),csl⟩) /\ ScOk scope x /\ (p2.endLine == p4.line) = true := by
 unfold fnB at h
 split at h
 ·rename_i oc od name qual params body scope gl n cc dV kV doc pm an cda ct bl osl e
  obtain ⟨h1,h⟩ := and2 h
  obtain ⟨h2,h⟩ := and2 h
  obtain ⟨h3,h⟩ := and2 h
  obtain ⟨h4,h⟩ := and2 h
  obtain ⟨h5,h⟩ := and2 h
  obtain ⟨h6,h⟩ := and2 h
  obtain ⟨h7,h⟩ := and2 h
  obtain ⟨h8,h⟩ := and2 h
  obtain ⟨h9,h⟩ := and2 h
  obtain ⟨h10,h11⟩ := and2 h
  have h1 := of_decide_eq_true h1
  have h2 := of_decide_eq_true h2
  have h3 := of_decide_eq_true h3
  have h4 := of_decide_eq_true h4
  have h5 : dV = .none := by
   cases dV <;> first | rfl | cases h5
  obtain ⟨a1,a2,q1,q2,h6⟩ := parB_ok h6
  obtain ⟨p0,p1,p2,p3,p4,p5,p6,p7,p8,p9,h7,hl⟩ := bodyB_ok h7
  obtain ⟨ccl,cdd,vs,ccs,tf,hf1,hf2⟩ := fileB_ok h10
  subst h1 h2 h3 h4 h5 h6 h7
  exact ⟨oc,od,osl,qual,scope,kV,doc,pm,an,cda,cc,ct,a1,a2,q1,q2,p0,p1,p2,p3,p4,p5,p6,p7,p8,p9,e,h9,⟨ccl,cdd,vs,ccs,_,tf,hf1,hf2,beq_self_eq_true _⟩,cellB_ok h11,scB_ok h8,hl⟩
 ·cases h
def clsB (K : Frag) (C : Addr) : Bool := match K.lookup C with
 | some ⟨.type c,_,.cls ⟨_,_,.ref C' :: bm,_,_,hd,_,_,_,_,dl⟩,⟨[_,_,_,_,some (.builtin n),_]⟩⟩=>decide (c = "type") && (decide (C' = C) && (HandSPX.refsVE bm && (hd && (!dl && decide (n = "ValueError.__new__")))))
 | _=>false
theorem clsB_ok {K : Frag} {C : Addr} (h : clsB K C = true) : ∃ nm q N bs bm sn sub ab col dd k0 k1 k2 k3 k5,K.lookup C = some (excClassObj nm q C N bs bm true sn sub ab col dd k0 k1 k2 k3 k5 "ValueError.__new__") /\ HandSPX.refsVE bm = true := by
 unfold clsB at h
 split at h
 ·rename_i c dd nm bs C' bm ns qn hd sn sb ab col dl k0 k1 k2 k3 n k5 e
  obtain ⟨h1,h⟩ := and2 h
  obtain ⟨h2,h⟩ := and2 h
  obtain ⟨h3,h⟩ := and2 h
  obtain ⟨h4,h⟩ := and2 h
  obtain ⟨h5,h6⟩ := and2 h
  have h1 := of_decide_eq_true h1
  have h2 := of_decide_eq_true h2
  have h6 := of_decide_eq_true h6
  have h5 : dl = false := by simpa using h5
  subst h1 h2 h4 h5 h6
  exact ⟨_,_,_,_,_,_,_,_,_,_,_,_,_,_,_,e,h3⟩
 ·cases h
def supB (K : Frag) (prog : Program) (n x f : Str) : Bool :=
 let C := He.ga K n
 let fI := He.ma K C "__init__"
 clsB K C && (He.eqO (findIn K (.ref C) "__setattr__") (some (some (.builtin "object.__setattr__"))) && (decide (subIn K (.ref C) (.type "BaseException") = some true) && (decide (typeIn K (.ref C) = some (.type "type")) && (keepIn K (.ref C) &&
 (He.eqO (findIn K (.ref C) "__init__") (some (some (.ref fI))) && (decide (typeIn K (.ref fI) = some (.type "function")) && (He.eqO (findIn K (.ref C) f) (some none) && (fnB K prog.main.file C fI x f && (decide (mroIn K C (.ref C) = some true) &&
 (decide ((prog.main.scope.names.lookup ("super" : Str)).isSome = false) && (He.eqO (ks_superIn K C C "__init__") (some (some (.builtin "ValueError.__init__"))) && (decide (subIn K (.ref C) (.type "ValueError") = some true) && He.eqO (nsIn K cStatics "thirdparty.any") (some none)))))))))))))
theorem supB_ok {K : Frag} {prog : Program} {n x f : Str} (hb : BindX x) (h : supB K prog n x f = true) : SupC K prog (He.ga K n) (He.ma K (He.ga K n) "__init__") x f := by
 unfold supB at h
 obtain ⟨h1,h⟩ := and2 h
 obtain ⟨h2,h⟩ := and2 h
 obtain ⟨h3,h⟩ := and2 h
 obtain ⟨h4,h⟩ := and2 h
 obtain ⟨h5,h⟩ := and2 h
 obtain ⟨h6,h⟩ := and2 h
 obtain ⟨h7,h⟩ := and2 h
 obtain ⟨h8,h⟩ := and2 h
 obtain ⟨h9,h⟩ := and2 h
 obtain ⟨h10,h⟩ := and2 h
 obtain ⟨h11,h⟩ := and2 h
 obtain ⟨h12,h⟩ := and2 h
 obtain ⟨h13,h14⟩ := and2 h
 exact ⟨⟨clsB_ok h1,He.eqO_ok h2,of_decide_eq_true h3,of_decide_eq_true h4,h5⟩,He.eqO_ok h6,of_decide_eq_true h7,He.eqO_ok h8,fnB_ok h9,hb,of_decide_eq_true h10,of_decide_eq_true h11,He.eqO_ok h12,of_decide_eq_true h13,He.eqO_ok h14⟩
end EXS
namespace DL
open PySem PySem.Spec PyProof.Rows L2
variable [TabL]
def XLink (K : PySem.W.Frag) (F G : Hp) (W : XK) (X : Str -> Str -> D -> Prop) : Prop := ∀ C f v d dx G' H',Ex G G' -> Wd F G' H' -> H' dx = some (.xd [(f,v)]) -> G' dx = none -> F dx = none -> Rep K G' v d -> X C f d -> W (.ref (He.ga K C)) (some dx) H'
theorem XLink.mono {K : PySem.W.Frag} {F G G1 : Hp} {W : XK} {X : Str -> Str -> D -> Prop} (L : XLink K F G W X) (e : Ex G G1) : XLink K F G1 W X := fun C f v d dx G' H' x=>L C f v d dx G' H' (e.trans x)
def EvX (K : PySem.W.Frag) (te : TE) (W : XK) (ρ : Env) (Q : D -> Env -> Prop) (X : Str -> Str -> D -> Prop) : Prop := ∀ F G H σ,RE K F G H σ ρ -> XLink K F G W X -> ∀ Q' : VK,
 (∀ v d ρ' G' H',Ex G G' -> RE K F G' H' σ ρ' -> Rep K G' v d -> Q d ρ' -> Q' v H') -> te σ H Q'
section
variable {K : PySem.W.Frag} {te ta tb tc : TE} {tt : TT} {ts : TA} {ρ : Env} {Q : D -> Env -> Prop} {E : EndD} {W : XK} {X : Str -> Str -> D -> Prop} {T : List D -> (D -> Prop) -> (Str -> Str -> D -> Prop) -> Prop}
theorem Links.xl {F G : Hp} {Dn : Ends} (L : Links K F G E Dn) : XLink K F G E.W E.xx := L.xx
theorem ws_dropX (hW : E.W = W) (h : EvX K te W ρ (fun _ ρ'=>E.nx ρ') E.xx) : WS K (tDrop te) ρ E := fun F G H σ Dn R L=>h F G H σ R (hW ▸ L.xl) _ fun v d ρ' G' H' e R' _ q=>L.nx σ ρ' G' H' e R' q
theorem ws_raise {C f : Str} (hW : E.W = W) (h : EvW K te ρ fun d _=>E.xx C f d) : WS K (fun _ σ H=>tMkS (He.ga K C) f te σ H fun cls d H'=>W cls d H') ρ E := fun F G H σ Dn R L =>
 h F G H σ R _ fun v d ρ1 G1 H1 e1 R1 hv q=>fun dx hdx=>by
  rw [<- hW]
  exact L.xx C f v d dx G1 _ e1 (R1.alone hdx).wd upd_same (R1.wd.g.none hdx) (R1.wd.f.none hdx) hv q
structure FnX (P : Program) (w : World) (K : PySem.W.Frag) (mg : Str -> Option Value) (base : Heap) (k : Nat) (x : Str) (ps : List Str) (sp : Sp) : Prop where
 ex : ∃ fd,FnOk P w K mg base (L2.CX P w) k (He.ga K x) fd ps sp /\ Binds K fd ps []
 kp : PySem.W.keepIn K (.ref (He.ga K x)) = true
 at_ : mg x = some (.ref (He.ga K x))
theorem pe_callX {X : Cx} {k : Nat} {x : Str} {ps : List Str} {sp : Sp} {e : Expr} {es : List Expr} {t : TA} {W : WX} {E : XK} {p pos : Pos} (F : FnX X.prog X.w X.K X.mg X.base k x ps sp) (tk : Takes X W) (hW : ∀ cls d σ H,E cls d H -> W cls d σ H) (hr : Room k X.A) (ha : PA X (e :: es) t) (hg : Gl X x := by rfl)
  (he : starEach (e :: es) X.env = (false,eval e X.env) :: starEach es X.env := by rfl) (hpl : (backTo pos (starEach es X.env)).any (·.1) = false := by rfl) (hd : (x == ("__debug__" : Str)) = false := by decide) : PE X (.Call (.Name x p) (e :: es) [] pos) (tCall sp [] E t) := by
 obtain ⟨fd,h1,h2⟩ := F.ex
 exact pe_call h1 hr hg F.at_ F.kp h2 .nil (passes_call tk hW) ha hd he hpl
theorem takesN {X : Cx} : Takes X (fun _ _ _ _=>False) := fun _ _ x=>by
 obtain ⟨_,_,_,_,_,_,_,_,_,_,_,_,_,_,_,_,z⟩ := x
 exact z.elim
end
end DL
namespace LamY
open PySem PySem.Spec PyProof.Rows L2 LamX
def TabOk (H : Hp) (P : Addr) (q : Str) (ps : Array Value) : Prop := H P = some (.tbl ps) /\ TriplesOk ps.toList /\ ∀ (pos : Pos) (cv : Value),codeAmong pos ps.toList = some cv -> ∃ c,cv = .ref c /\ H c = some (CodeO c q)
end LamY
namespace DL
open PySem PySem.Spec PyProof.Rows L2 LamX LamY
variable [TabL]
section
variable {K : PySem.W.Frag} {te : TE} {ρ : Env} {Q : D -> Env -> Prop}
theorem fst_inj {α β : Type} : ∀ {l : List (α × β)},(l.map (·.1)).Nodup -> ∀ {a b : α × β},a ∈ l -> b ∈ l -> a.1 = b.1 -> a = b
 | [],_,_,_,m,_,_=>by cases m
 | x :: l,nd,a,b,ma,mb,e=>by
  rw [List.map_cons,List.nodup_cons] at nd
  rcases List.mem_cons.mp ma with ea | ma2
  ·rcases List.mem_cons.mp mb with eb | mb2
   ·rw [ea,eb]
   ·exact absurd (List.mem_map.mpr ⟨b,mb2,by rw [<- e,ea]⟩) nd.1
  ·rcases List.mem_cons.mp mb with eb | mb2
   ·exact absurd (List.mem_map.mpr ⟨a,ma2,by rw [e,eb]⟩) nd.1
   ·exact fst_inj nd.2 ma2 mb2 e
theorem upd_comm {H : Hp} {a b : Addr} {x y : HO} (h : a ≠ b) : upd (upd H a x) b y = upd (upd H b y) a x := by
 funext z
 by_cases h1 : z = a
 ·subst h1; rw [upd_ne h,upd_same,upd_same]
 ·by_cases h2 : z = b
  ·subst h2; rw [upd_same,upd_ne h1,upd_same]
  ·rw [upd_ne h2,upd_ne h1,upd_ne h1,upd_ne h2]
end
end DL
namespace He
open PySem PySem.Spec PyProof.Rows L2
def fragS (g : Addr -> Option Obj) (n : Nat) : PySem.W.Frag := frT g (cStatics :: asD g n)
def obsXS (n : Nat) (fa : List Fa) (fn : List DefD) (tf : List Defn) (ex : PySem.W.Frag -> Bool) (g : Addr -> Option Obj) : AlX := (obsT fa fn [] (fragS g n),ex (fragS g n) && tabsB g tf (fragS g n))
theorem saysXS_of {n : Nat} {fa : List Fa} {fn : List DefD} {tf : List Defn} {ex : PySem.W.Frag -> Bool} {w : World} {h : Heap} (e : obsXS n fa fn tf ex h.get? = valX fn [] w) : SaysX fa fn [] tf ex w h (fragS h.get? n) := by
 obtain ⟨h1,h2⟩ := ba (show (ex (fragS h.get? n) && tabsB h.get? tf (fragS h.get? n)) = true from congrArg (fun z : AlX=>z.2) e)
 have all : ∀ p ∈ tf,PySem.W.codeHdIn (fragS h.get? n) (cT (fragS h.get? n) p).1 (cT (fragS h.get? n) p).2 = true /\ ∃ o,h.get? (cT (fragS h.get? n) p).2 = some o /\ emptyTab o = true := fun p hp=>by
  obtain ⟨h3,h4⟩ := ba (List.all_eq_true.mp h2 p hp)
  split at h4
  ·rename_i o q
   exact ⟨h3,o,q,h4⟩
  ·cases h4
 refine ⟨congrArg (fun z : AlX=>z.1) e,h1,fun p hp=>(all p hp).1,fun p hp=>?_,fun p hp=>?_⟩
 ·obtain ⟨_,o,q,z⟩ := all p hp
  exact frT_none q z
 ·obtain ⟨_,o,q,z⟩ := all p hp
  rw [q,emptyTab_eq z]
def hookXS (n : Nat) (fa : List Fa) (fn : List DefD) (tf : List Defn) (ex : PySem.W.Frag -> Bool) : PySem.W.Hook where
 α := AlX
 obs := fun s=>obsXS n fa fn tf ex s.heap.get?
 val := fun w=>valX fn [] w
 says := fun w h=>∃ K : PySem.W.Frag,K.In h /\ SaysX fa fn [] tf ex w h K
 of := fun _ _ e=>⟨_,frT_in,saysXS_of e⟩
 keeps := fun _ _ _ ⟨K,hK,c⟩ k=>⟨K,PySem.W.Frag.In.keeps hK k,⟨c.t,c.more,c.hd,c.out,fun p hp=>k _ _ (c.empty p hp)⟩⟩
theorem obsXS_eq {n : Nat} {fa : List Fa} {fn : List DefD} {tf : List Defn} {ex : PySem.W.Frag -> Bool} {g : Addr -> Option Obj} {s : Shared} (h : ∀ a,g a = s.heap.get? a) : obsXS n fa fn tf ex g = (hookXS n fa fn tf ex).obs s := by
 have e : g = s.heap.get? := funext h
 rw [e] <;> rfl
end He
namespace SrtK
open PySem PySem.Spec PyProof.Rows L2 SrtO
section
variable {α : Type} {lt : α -> α -> Bool}
def ins (lt : α -> α -> Bool) (x : α) : List α -> List α
 | []=>[x]
 | y :: l=>if lt y x = true then y :: ins lt x l else x :: y :: l
def srt (lt : α -> α -> Bool) : List α -> List α
 | []=>[]
 | x :: l=>ins lt x (srt lt l)
theorem ins_mem {x y : α} : ∀ {l : List α},y ∈ ins lt x l -> y = x \/ y ∈ l
 | [],h=>.inl (List.mem_singleton.mp h)
 | z :: l,h=>by
  unfold ins at h
  split at h
  ·rcases List.mem_cons.mp h with e | h
   ·exact .inr (e ▸ List.mem_cons_self)
   ·exact (ins_mem h).imp id (List.mem_cons_of_mem _)
  ·exact List.mem_cons.mp h
theorem ins_srtd (O : Swo lt) {x : α} : ∀ {l : List α},Srtd lt l -> Srtd lt (ins lt x l)
 | [],_=>srtd_one x
 | y :: l,h=>by
  obtain ⟨h1,h2⟩ := List.pairwise_cons.mp h
  unfold ins
  split
  ·rename_i c
   refine List.pairwise_cons.mpr ⟨fun z hz=>?_,ins_srtd O h2⟩
   rcases ins_mem hz with e | hz
   ·rw [e]; exact O.asym _ _ c
   ·exact h1 z hz
  ·rename_i c
   have c' : lt y x = false := by simpa using c
   refine List.pairwise_cons.mpr ⟨fun z hz=>?_,h⟩
   rcases List.mem_cons.mp hz with e | hz
   ·rw [e]; exact c'
   ·exact O.tr x y z c' (h1 z hz)
theorem ins_stb (O : Swo lt) {x : α} : ∀ {l : List α},Stb lt (ins lt x l) (x :: l)
 | []=>Stb.refl _
 | y :: l=>by
  unfold ins
  split
  ·rename_i c
   have ih := ins_stb O (x := x) (l := l)
   refine ⟨(ih.perm.cons y).trans (List.Perm.swap x y l),fun z=>?_⟩
   have hz := ih.cls z
   rw [List.filter_cons,hz,List.filter_cons,List.filter_cons,List.filter_cons]
   cases h1 : eqv lt z y <;> cases h2 : eqv lt z x <;> try rfl
   exfalso
   obtain ⟨a1,a2⟩ := eqv_iff.mp h1
   obtain ⟨b1,b2⟩ := eqv_iff.mp h2
   have := O.tr x z y b1 a2
   rw [c] at this; cases this
  ·exact Stb.refl _
theorem srt_srtd (O : Swo lt) : ∀ l : List α,Srtd lt (srt lt l)
 | []=>List.Pairwise.nil
 | x :: l=>ins_srtd O (srt_srtd O l)
theorem Stb.symm {l m : List α} (h : Stb lt l m) : Stb lt m l := ⟨h.perm.symm,fun x=>(h.cls x).symm⟩
theorem srt_stb (O : Swo lt) : ∀ l : List α,Stb lt (srt lt l) l
 | []=>Stb.refl _
 | x :: l=>(ins_stb O).trans (show Stb lt ([x] ++ srt lt l) ([x] ++ l) from (Stb.refl [x]).app (srt_stb O l))
theorem srt_eq (O : Swo lt) {l m : List α} (h1 : Srtd lt m) (h2 : Stb lt m l) : m = srt lt l := stb_uniq O h1 (srt_srtd O l) (h2.trans (Stb.symm (srt_stb O l)))
theorem srt_perm (O : Swo lt) (l : List α) : (srt lt l).Perm l := (srt_stb O l).perm
end
def kLt : Key -> Key -> Bool
 | .inl i,.inl j=>decide (i < j)
 | .inr a,.inr b=>decide (a.cps.toList < b.cps.toList)
 | .inl _,.inr _=>true
 | .inr _,.inl _=>false
theorem str_ext {a b : Str} (h : a.cps.toList = b.cps.toList) : a = b := by
 cases a; cases b
 simp only [Str.mk.injEq]
 exact Array.toList_inj.mp h
theorem kLt_asym {x y : Key} (h : kLt x y = true) : kLt y x = false := by
 cases x with
 | inl i=>cases y with
  | inl j=>simp only [kLt,decide_eq_true_eq,decide_eq_false_iff_not] at h ⊢; omega
  | inr b=>rfl
 | inr a=>cases y with
  | inl j=>cases h
  | inr b =>
   simp only [kLt,decide_eq_true_eq,decide_eq_false_iff_not] at h ⊢
   exact fun z=>List.lt_irrefl _ (List.lt_trans h z)
theorem kLt_trans {x y z : Key} (h : kLt x y = true) (g : kLt y z = true) : kLt x z = true := by
 cases x with
 | inl i=>cases y with
  | inl j=>cases z with
   | inl k=>simp only [kLt,decide_eq_true_eq] at h g ⊢; omega
   | inr c=>rfl
  | inr b=>cases z with
   | inl k=>cases g
   | inr c=>rfl
 | inr a=>cases y with
  | inl j=>cases h
  | inr b=>cases z with
   | inl k=>cases g
   | inr c=>simp only [kLt,decide_eq_true_eq] at h g ⊢; exact List.lt_trans h g
theorem kLt_total {x y : Key} (n : x ≠ y) (h : kLt x y = false) : kLt y x = true := by
 cases x with
 | inl i=>cases y with
  | inl j =>
   simp only [kLt,decide_eq_true_eq,decide_eq_false_iff_not] at h ⊢
   have : i ≠ j := fun z=>n (by rw [z])
   omega
  | inr b=>cases h
 | inr a=>cases y with
  | inl j=>rfl
  | inr b =>
   simp only [kLt,decide_eq_true_eq,decide_eq_false_iff_not] at h ⊢
   by_cases g : b.cps.toList < a.cps.toList
   ·exact g
   ·exact absurd (congrArg Sum.inr (str_ext (List.le_antisymm (List.not_lt.mp g) (List.not_lt.mp h)))) n
theorem kLt_irr (x : Key) : kLt x x = false := by
 cases h : kLt x x with
 | false=>rfl
 | true=>rw [kLt_asym h] at h; cases h
def lexK : List Key -> List Key -> Bool
 | [],[]=>false
 | [],_ :: _=>true
 | _ :: _,[]=>false
 | x :: xs,y :: ys=>if x = y then lexK xs ys else kLt x y
theorem lexK_asym : ∀ {x y : List Key},lexK x y = true -> lexK y x = false
 | [],[],h=>by cases h
 | [],_ :: _,_=>rfl
 | _ :: _,[],h=>by cases h
 | x :: xs,y :: ys,h=>by
  unfold lexK at h ⊢
  by_cases e : x = y
  ·rw [if_pos e] at h; rw [if_pos e.symm]; exact lexK_asym h
  ·rw [if_neg e] at h; rw [if_neg (Ne.symm e)]; exact kLt_asym h
theorem lexK_tr : ∀ {x y z : List Key},lexK y x = false -> lexK z y = false -> lexK z x = false
 | [],[],[],_,_=>rfl
 | [],[],_ :: _,_,_=>rfl
 | [],_ :: _,[],_,h=>by cases h
 | [],_ :: _,_ :: _,_,_=>rfl
 | _ :: _,[],_,h,_=>by cases h
 | _ :: _,_ :: _,[],_,h=>by cases h
 | x :: xs,y :: ys,z :: zs,h,g=>by
  unfold lexK at h g ⊢
  by_cases e : y = x
  ·subst e
   rw [if_pos rfl] at h
   by_cases f : z = y
   ·rw [if_pos f] at g ⊢; exact lexK_tr h g
   ·rw [if_neg f] at g ⊢; exact g
  ·rw [if_neg e] at h
   have h' := kLt_total e h
   by_cases f : z = y
   ·subst f
    rw [if_neg e]; exact h
   ·rw [if_neg f] at g
    have g' := kLt_total f g
    have k := kLt_trans h' g'
    have ne : z ≠ x := fun q=>by rw [q,kLt_irr] at k; cases k
    rw [if_neg ne]; exact kLt_asym k
theorem lexK_swo : Swo lexK := ⟨fun _ _ h=>lexK_asym h,fun _ _ _ h g=>lexK_tr h g⟩
def srtK (ks : List (List Key)) : List (List Key) := srt lexK ks
def isL : Key -> Bool
 | .inl _=>true
 | .inr _=>false
def shp (ks : List Key) : List Bool := ks.map isL
section
variable {prog : Program} {w : World} {A : Around} {E : Value -> Shared -> Prop} {s : Shared}
theorem oneLt_strs (c : Bool) {p q : Str} {t u : Tok} {Q : Bool -> Shared -> Prop} (h : Q (decide (p.cps.toList < q.cps.toList)) s) : wpAny (model prog w) A (oneLt' c (.str p t) (.str q u)) Q E s := by
 cases c with
 | true=>exact oneLt_str h
 | false=>exact PySem.W.kat_one _ _ (PyProof.Rows.lt_str h)
theorem oneLt_intsC (c : Bool) {p q : Int} {t u : Tok} {Q : Bool -> Shared -> Prop} (h : Q (decide (p < q)) s) : wpAny (model prog w) A (oneLt' c (.int p t) (.int q u)) Q E s := by
 cases c with
 | true=>exact oneLt_int h
 | false=>exact PySem.W.kat_one _ _ (PyProof.Rows.lt_int h)
theorem katlex {b : Bool} {Q : Bool -> Shared -> Prop} : ∀ {ks js : List Key} {us ws : List Value} (i : Nat),Vals (ks.map kV) us -> Vals (js.map kV) ws -> shp ks = shp js -> Q (lexK ks js) s -> PySem.W.KatLex prog w A b false Q (us.zip ws) i s
 | [],[],_,_,i,.nil,.nil,_,h=>PySem.W.kat_nil h
 | [],_ :: _,_,_,i,_,_,e,h=>by cases e
 | _ :: _,[],_,_,i,_,_,e,h=>by cases e
 | .inl x :: ks,.inl y :: js,_,_,i,.cons r1 t1,.cons r2 t2,e,h=>by
  obtain ⟨a,rfl⟩ := r1
  obtain ⟨c,rfl⟩ := r2
  have e' : shp ks = shp js := (List.cons.inj e).2
  refine PySem.W.kat_cons (SeqAt.EqAt.int_int x a y c prog w _ _ ?_)
  refine PySem.W.kat_go (fun e1=>?_) (fun e1=>?_)
  ·have ex : x = y := by simpa using e1
   refine PySem.W.kat_yes (katlex (i + 1) t1 t2 e' ?_)
   rw [lexK,if_pos (by rw [ex])] at h; exact h
  ·have ex : ¬ x = y := by simpa using e1
   refine PySem.W.kat_no (oneLt_intsC _ ?_)
   rw [lexK,if_neg (fun z=>ex (Sum.inl.inj z))] at h; exact h
 | .inr x :: ks,.inr y :: js,_,_,i,.cons r1 t1,.cons r2 t2,e,h=>by
  obtain ⟨a,rfl⟩ := r1
  obtain ⟨c,rfl⟩ := r2
  have e' : shp ks = shp js := (List.cons.inj e).2
  refine PySem.W.kat_cons (SeqAt.EqAt.str_str x a y c prog w _ _ ?_)
  refine PySem.W.kat_go (fun e1=>?_) (fun e1=>?_)
  ·have ex : x = y := by simpa using e1
   refine PySem.W.kat_yes (katlex (i + 1) t1 t2 e' ?_)
   rw [lexK,if_pos (by rw [ex])] at h; exact h
  ·have ex : ¬ x = y := by simpa using e1
   refine PySem.W.kat_no (oneLt_strs _ ?_)
   rw [lexK,if_neg (fun z=>ex (Sum.inr.inj z))] at h; exact h
 | .inl x :: ks,.inr y :: js,_,_,i,_,_,e,h=>by cases (List.cons.inj e).1
 | .inr x :: ks,.inl y :: js,_,_,i,_,_,e,h=>by cases (List.cons.inj e).1
def TupK (h : Heap) (v : Value) (ks : List Key) : Prop := ∃ a o its n,v = .ref a /\ h.get? a = some o /\ o.cls = .type "tuple" /\ o.data = .seq its n /\ Vals (ks.map kV) its.toList
theorem TupK.keeps {h h' : Heap} {v : Value} {ks : List Key} (t : TupK h v ks) (k : ∀ b o,h.get? b = some o -> o.cls = .type "tuple" -> h'.get? b = some o) : TupK h' v ks := by
 obtain ⟨a,o,its,n,e,ho,hc,hd,r⟩ := t
 exact ⟨a,o,its,n,e,k _ _ ho hc,hc,hd,r⟩
theorem tup_cmp {vs : List Value} {k : Value -> List Key} {sh : List Bool} (hp : ∀ v ∈ vs,TupK s.heap v (k v) /\ shp (k v) = sh) : Cmp prog w A s (tuples' true) (fun p=>p.1 ∈ vs) (lt2 fun v u=>lexK (k v) (k u)) := by
 intro p q hm hm'
 obtain ⟨⟨a,o,its,n,e,ho,hc,hd,r⟩,s1⟩ := hp _ hm
 obtain ⟨⟨a',o',its',n',e',ho',hc',hd',r'⟩,s2⟩ := hp _ hm'
 show wpAny (model prog w) A (keyLt' (tuples' true) p.1 q.1) (fun r s'=>s' = s /\ r = lexK (k p.1) (k q.1)) (fun _ _=>False) s
 have kk := katlex (prog := prog) (w := w) (A := A) (s := s) (b := true) (Q := fun r s'=>s' = s /\ r = lexK (k p.1) (k q.1)) 0 r r' (s1.trans s2.symm) ⟨rfl,rfl⟩
 have hl : its.size = its'.size := by
  have l1 := r.length
  have l2 := r'.length
  have l3 := congrArg List.length (s1.trans s2.symm)
  unfold shp at l3
  rw [List.length_map,List.length_map] at l3
  rw [List.length_map] at l1 l2
  have q1 : its.toList.length = its.size := Array.length_toList
  have q2 : its'.toList.length = its'.size := Array.length_toList
  omega
 have hf : (decide (its.size < its'.size)) = false := by rw [hl]; exact decide_eq_false (Nat.lt_irrefl _)
 rw [e,e']
 refine PySem.W.kat_lt ho hd ho' hd' ?_
 rw [hf]
 rw [e,e'] at kk
 exact kk
theorem firstsK {h : Heap} {b : Bool} {sr : List Bool} : ∀ {vs : List Value},(∀ v ∈ vs,∃ ks,TupK h v ks /\ shp ks = b :: sr) -> ∃ fs : List Value,PySem.W.KatTups h vs fs /\ fs.length = vs.length /\ ∀ f ∈ fs,∃ M : Model -> Prop,(∀ M' : Model,PySem.W.Looks M' h (typeOf f) (.type (if b then "int" else "str")))
 | [],_=>⟨[],PySem.W.KatTups.nil,rfl,fun _ hm=>by simp at hm⟩
 | v :: vs,hp=>by
  obtain ⟨fs,h1,h2,h3⟩ := firstsK (vs := vs) fun v' hm=>hp v' (List.mem_cons_of_mem _ hm)
  obtain ⟨ks,⟨a,o,its,n,e,ho,hc,hd,r⟩,hs⟩ := hp v List.mem_cons_self
  subst e
  cases ks with
  | nil=>cases hs
  | cons k ks =>
   have hb : isL k = b := (List.cons.inj hs).1
   rw [List.map_cons] at r
   obtain ⟨f,rest,hit,rf⟩ : ∃ f rest,its.toList = f :: rest /\ RelV (kV k) f := by
    cases hq : its.toList with
    | nil=>rw [hq] at r; cases r
    | cons f rest=>rw [hq] at r; cases r with | cons r1 _=>exact ⟨f,rest,rfl,r1⟩
   have hf0 : its[0]? = some f := by
    rw [<- Array.getElem?_toList,hit]; rfl
   refine ⟨f :: fs,PySem.W.KatTups.cons ho hc hd hf0 h1,by rw [List.length_cons,List.length_cons,h2],fun g hm=>?_⟩
   rcases List.mem_cons.mp hm with rfl | hm
   ·refine ⟨fun _=>True,fun M'=>?_⟩
    cases k with
    | inl i=>obtain ⟨t,rfl⟩ := rf; subst hb; exact PySem.W.Looks.now
    | inr x=>obtain ⟨t,rfl⟩ := rf; subst hb; exact PySem.W.Looks.now
   ·exact h3 g hm
theorem tups_sortable {a : Addr} {vs : List Value} {k : Value -> List Key} {b : Bool} {sr : List Bool} (h0 : 0 < vs.length) (hp : ∀ v ∈ vs,TupK s.heap v (k v) /\ shp (k v) = b :: sr) (ha : ∀ o,s.heap.get? a = some o -> o.cls ≠ .type "tuple") : SortableO prog w A s a vs fun v u=>lexK (k v) (k u) := by
 intro h' keep
 have hp' : ∀ v ∈ vs,TupK h' v (k v) /\ shp (k v) = b :: sr := fun v hm=>⟨(hp v hm).1.keeps fun b o e c=>keep b o (fun z=>by subst z; exact ha o e c) e,(hp v hm).2⟩
 obtain ⟨fs,h1,h2,h3⟩ := firstsK fun v hm=>⟨_,hp' v hm⟩
 refine ⟨tuples' true,fun Q E hq=>?_,tup_cmp hp'⟩
 refine PySem.W.kat_kind (T := .type (if b then "int" else "str")) h1 (by omega) (fun f hm=>?_) (by cases b <;> rfl) ?_
 ·obtain ⟨_,hh⟩ := h3 f hm
  exact hh _
 ·have e : (Value.type (if b then "int" else "str") != Value.type "tuple") = true := by cases b <;> decide +kernel
  rw [e]
  exact hq
theorem swo_on {α β : Type} {lt : β -> β -> Bool} (O : Swo lt) (f : α -> β) : Swo fun x y=>lt (f x) (f y) := ⟨fun x y=>O.asym (f x) (f y),fun x y z=>O.tr (f x) (f y) (f z)⟩
end
end SrtK
namespace SrtK
open PySem PySem.Spec PyProof.Rows L2 SrtO
theorem kV_inj {x y : Key} (h : kV x = kV y) : x = y := by
 cases x <;> cases y <;> first | (cases h; rfl) | (cases h; done)
theorem kVs_inj : ∀ {x y : List Key},x.map kV = y.map kV -> x = y
 | [],[],_=>rfl
 | [],_ :: _,h=>by cases h
 | _ :: _,[],h=>by cases h
 | x :: xs,y :: ys,h=>by
  have h' := List.cons.inj h
  rw [kV_inj h'.1,kVs_inj h'.2]
open Classical in
noncomputable def keyAt (H : Hp) (v : Value) : List Key := if h : ∃ (ks : List Key) (a : Addr),v = .ref a /\ H a = some (.tup (ks.map kV)) then h.choose else []
theorem keyAt_eq {H : Hp} {a : Addr} {ks : List Key} (h : H a = some (.tup (ks.map kV))) : keyAt H (.ref a) = ks := by
 have ex : ∃ (ks : List Key) (b : Addr),(Value.ref a) = .ref b /\ H b = some (.tup (ks.map kV)) := ⟨ks,a,rfl,h⟩
 unfold keyAt
 rw [dif_pos ex]
 obtain ⟨b,e,hb⟩ := ex.choose_spec
 cases e
 rw [h] at hb
 exact (kVs_inj (HO.tup.inj (Option.some.inj hb))).symm
def KeysAt (H : Hp) (bs : List Addr) (ks : List (List Key)) : Prop := Paired (fun b k=>H b = some (.tup (k.map kV))) bs ks
theorem KeysAt.key {H : Hp} : ∀ {bs : List Addr} {ks : List (List Key)},KeysAt H bs ks -> (bs.map Value.ref).map (keyAt H) = ks
 | _,_,.nil=>rfl
 | _,_,.cons h r=>by rw [List.map_cons,List.map_cons,keyAt_eq h,KeysAt.key r]
theorem KeysAt.mem {H : Hp} : ∀ {bs : List Addr} {ks : List (List Key)},KeysAt H bs ks -> ∀ v ∈ bs.map Value.ref,∃ a,v = .ref a /\ a ∈ bs /\ H a = some (.tup ((keyAt H v).map kV)) /\ keyAt H v ∈ ks
 | _,_,.nil,v,m=>by cases m
 | _,_,.cons h r,v,m=>by
  rw [List.map_cons] at m
  rcases List.mem_cons.mp m with e | m
  ·subst e
   exact ⟨_,rfl,List.mem_cons_self,by rw [keyAt_eq h]; exact h,by rw [keyAt_eq h]; exact List.mem_cons_self⟩
  ·obtain ⟨a,e,ma,h1,h2⟩ := KeysAt.mem r v m
   exact ⟨a,e,List.mem_cons_of_mem _ ma,h1,List.mem_cons_of_mem _ h2⟩
theorem keysAt_of {H : Hp} : ∀ {out : List Value},(∀ v ∈ out,∃ a,v = .ref a /\ H a = some (.tup ((keyAt H v).map kV))) -> ∃ bs : List Addr,out = bs.map Value.ref /\ KeysAt H bs (out.map (keyAt H))
 | [],_=>⟨[],rfl,.nil⟩
 | v :: out,h=>by
  obtain ⟨bs,e,k⟩ := keysAt_of (out := out) fun u hu=>h u (List.mem_cons_of_mem _ hu)
  obtain ⟨a,rfl,ha⟩ := h v List.mem_cons_self
  exact ⟨a :: bs,by rw [List.map_cons,<- e],.cons ha k⟩
theorem sort_core {H : Hp} {bs0 : List Addr} {ks0 : List (List Key)} (k0 : KeysAt H bs0 ks0) {out : List Value} (h1 : Srtd (fun v u=>lexK (keyAt H v) (keyAt H u)) out) (h2 : Stb (fun v u=>lexK (keyAt H v) (keyAt H u)) out (bs0.map Value.ref)) :
  ∃ bs : List Addr,out = bs.map Value.ref /\ KeysAt H bs (srtK ks0) /\ bs.length = bs0.length := by
 obtain ⟨bs,e,k⟩ := keysAt_of (H := H) (out := out) fun v hv=>by
  obtain ⟨a,e,_,h,_⟩ := k0.mem v (h2.perm.mem_iff.mp hv)
  exact ⟨a,e,h⟩
 have es : out.map (keyAt H) = srtK ks0 := by
  have z := srt_eq lexK_swo (srtd_map h1) (Stb.map lexK_swo (keyAt H) h2)
  rw [k0.key] at z
  exact z
 rw [es] at k
 refine ⟨bs,e,k,?_⟩
 have l := h2.perm.length_eq
 rw [e,List.length_map,List.length_map] at l
 exact l
section
variable {X : Cx}
theorem tupK_of {pins : List (Addr × Obj)} {σ : L2.St} {H : Hp} {s : Shared} (I : Inv X pins σ H s) {a : Addr} {ks : List Key} (h : H a = some (.tup (ks.map kV))) : TupK s.heap (.ref a) ks := by
 obtain ⟨_,its,r,o,h1,h2,n,h3⟩ := (show ObjOk X.prog X.w H s.heap a (.tup (ks.map kV)) from I.hok a _ h)
 exact ⟨a,o,its.toArray,n,rfl,h1,h2,h3,by simpa using r⟩
theorem vals_ref : ∀ bs : List Addr,Vals (bs.map V.ref) (bs.map Value.ref)
 | []=>.nil
 | b :: bs=>.cons rfl (vals_ref bs)
theorem vals_ref_inv : ∀ {bs : List Addr} {us : List Value},Vals (bs.map V.ref) us -> us = bs.map Value.ref
 | [],_,r=>by cases r; rfl
 | b :: bs,_,r=>by
  rw [List.map_cons] at r
  cases r with
  | cons r1 r2 =>
   cases r1
   rw [List.map_cons,vals_ref_inv r2]
def rSortKD : List V -> Hp -> VK -> Prop := fun xs H Q=>∃ (a : Addr) (kvs : List (List Key × V)) (b : Bool) (sr : List Bool),xs = [.ref a] /\ Rd H a (.dT kvs) /\ (∀ k ∈ kvs.map (·.1),shp k = b :: sr) ∧
 ∀ (bs : List Addr) (p : Addr),KeysAt H bs (srtK (kvs.map (·.1))) -> H p = none -> Q (.ref p) (upd H p (.lst (bs.map V.ref)))
theorem keysAt_isKeys {H : Hp} : ∀ {kvs : List (List Key × V)} {bs : List Addr},IsKeys H kvs bs -> KeysAt H bs (kvs.map (·.1))
 | _,_,.nil=>.nil
 | _,_,.cons h r=>.cons h (keysAt_isKeys r)
theorem cr_sortKD (hc : X.calm = true) : CallR X (.builtin "sorted") rSortKD := by
 intro pins s σ H xs us Q I r h
 obtain ⟨d,kvs,b,sr,rfl,hd,hsh,q⟩ := h
 rw [Vals.ref1 r]
 obtain ⟨z,hs,ks,pr,o,es,ep,ho,hx,hdt,he,hn⟩ := (show ObjOk X.prog X.w H s.heap d (.dT kvs) from hd.ok I.hok)
 have l1 : es.size = ks.length := size_of_entries he
 have l2 : kvs.length = ks.length := Paired.length pr
 have k0 : KeysAt H (ks.map fun x=>x.2.1) (kvs.map (·.1)) := keysAt_isKeys (isKeys_of pr)
 refine Calls.call_function_entry PyProof.Rows.kind_sorted PyProof.Rows.plain_sorted PyProof.Rows.entry_sorted (PyProof.Rows.args_sorted1 _) ?_
 unfold Builtin.«sorted»
 refine wpAny_bind (m := checkCount "sorted" 1 1 _) (wpAny_pure ?_)
 refine wpAny_bind (PySem.W.kdu_collect (A := X.A.in1) (kdl_raw hs hx hdt) (I.ok.hd hc) ho (by omega) fun h' tk acc' kp it=>?_)
 have ea : acc'.toList = (ks.map fun x=>x.2.1).map Value.ref := by
  have hl : acc'.toList.length = ks.length := by rw [Array.length_toList,it.1]; exact l1
  apply List.ext_getElem?
  intro j
  rw [List.getElem?_map,List.getElem?_map]
  cases hj : acc'.toList[j]? with
  | none =>
   have h1 := List.getElem?_eq_none_iff.mp hj
   rw [List.getElem?_eq_none (by omega)]
   all_goals rfl
  | some v =>
   obtain ⟨en,hen,hv⟩ := it.2 j v (by rw [<- Array.getElem?_toList]; exact hj)
   have qe := entry_at he j
   rw [hen] at qe
   cases hb : ks[j]? with
   | none =>
    rw [hb] at qe
    exact nomatch (show some en = none from qe)
   | some b =>
    rw [hb] at qe
    have e2 : en = entryOfKey (tupleKind (mixKind X.prog X.w)) b := Option.some.inj qe
    rw [hv,e2]
    all_goals rfl
 have hz : acc'.toList.length <= sizeLine := by rw [ea,List.length_map,List.length_map]; omega
 have I1 : Inv X pins σ H { s with heap := h',toks := tk } := I.kept kp
 refine wpAny_bind (wpAny_newList ?_ hz)
 have hoL : (h'.push (seqObj "list" acc'.toList.toArray 0)).get? h'.objs.size = some (seqObj "list" acc'.toList.toArray 0) := Heap.get?_push_size _ rfl
 show wpAny _ _ _ _ _ { s with heap := h'.push (seqObj "list" acc'.toList.toArray 0),toks := tk }
 refine wpAny_bind (wpAny_holding (wpAny_call_entry PyProof.Rows.slot_list_sort ⟨_,hoL,rfl⟩ PyProof.Rows.entry_list_sort
  (SrtO.list_sort_ord (s := { s with heap := h'.push (seqObj "list" acc'.toList.toArray 0),toks := tk }) (swo_on lexK_swo (keyAt H)) hoL hz (fun h2=>?_) fun out h1 h2=>⟨_,rfl,?_⟩)
  (PyProof.Rows.args_list_sort _)))
 ·refine tups_sortable (b := b) (sr := sr) (by omega) (fun v hm=>?_) fun o e=>?_
  ·rw [ea] at hm
   obtain ⟨c,e,_,hc,hk⟩ := k0.mem v hm
   subst e
   exact ⟨(tupK_of I1 hc).keeps fun b o e _=>Heap.get?_push_of_some _ e,hsh _ hk⟩
  ·have e' : some o = some (seqObj "list" acc'.toList.toArray 0) := e.symm.trans hoL
   cases e'
   intro c
   exact absurd (Value.type.inj c) (by decide)
 ·rw [ea] at h2
  obtain ⟨bs,e,k,hlen⟩ := sort_core k0 h1 h2
  obtain ⟨e',he'⟩ := PyProof.Rows.sortedHeap_at (vs := acc'.toList) (out := out.toArray) hoL
  refine wpAny_pure ⟨_,rfl,.ref h'.objs.size,upd H h'.objs.size (.lst (bs.map V.ref)),I1.laid (t' := tk) (fun b u e=>?_) (Nat.le_refl _)
   (show ObjOk X.prog X.w _ _ _ (.lst (bs.map V.ref)) from ⟨by rw [List.length_map,hlen,List.length_map]; omega,out,e',by rw [e]; exact vals_ref bs,he'⟩),rfl,q bs _ k (I1.hok.fresh (Nat.le_refl _))⟩
  have hb : b < h'.objs.size := Heap.lt_size e
  rw [PyProof.Rows.sortedHeap_old (Nat.ne_of_lt hb) (by rw [size_push']; exact Nat.lt_succ_of_lt hb)]
  exact Heap.get?_push_of_some _ e
end
end SrtK
namespace SrtK
open PySem PySem.Spec PyProof.Rows L2 SrtO
theorem putK_len {κ : Type} [DecidableEq κ] (kvs : List (κ × V)) (k : κ) (v : V) : (putK kvs k v).length <= kvs.length + 1 := by
 unfold putK
 split
 ·rw [List.length_map]; omega
 ·simp
section
variable {X : Cx}
def rDictT (K : PySem.W.Frag) : List V -> Hp -> VK -> Prop := fun xs H Q=>∃ (a : Addr) (ps : List Addr) (kvs : List (List Key × Addr × V)),xs = [.ref a] /\ SqL K H a (ps.map V.ref) /\ Paired (fun p kv=>H p = some (.tup [.ref kv.2.1,kv.2.2]) /\ H kv.2.1 = some (.tup (kv.1.map kV))) ps kvs ∧
 ∀ p,H p = none -> Q (.ref p) (upd H p (.dT ((kvs.map fun x=>(x.1,x.2.2)).foldl (fun acc kv=>putK acc kv.1 kv.2) [])))
theorem pairs_t {pins : List (Addr × Obj)} {σ : L2.St} {H : Hp} {s : Shared} (I : Inv X pins σ H s) : ∀ {ps : List Addr} {kvs : List (List Key × Addr × V)},Paired (fun p kv=>H p = some (.tup [.ref kv.2.1,kv.2.2]) /\ H kv.2.1 = some (.tup (kv.1.map kV))) ps kvs ->
  ∃ prs : List (List Key × Addr × Value),Paired (fun (p : List Key × Addr × V) (q : List Key × Addr × Value)=>p.1 = q.1 /\ p.2.1 = q.2.1 /\ RelV p.2.2 q.2.2) kvs prs /\ prs.length = ps.length /\ ∀ (j : Nat) (q : List Key × Addr × Value),prs[j]? = some q -> ∃ b : Addr,ps[j]? = some b /\ s.heap.IsTuple b #[.ref q.2.1,q.2.2] /\ H q.2.1 = some (.tup (q.1.map kV))
 | _,_,.nil=>⟨[],.nil,rfl,fun j q e=>by simp at e⟩
 | _,_,.cons (a := p) (b := kv) h t=>by
  obtain ⟨prs,r,hl,hp⟩ := pairs_t I t
  obtain ⟨h,hk⟩ := h
  obtain ⟨_,its,rv,o,h1,h2,n,h3⟩ := (show ObjOk X.prog X.w H s.heap p (.tup [.ref kv.2.1,kv.2.2]) from I.hok p _ h)
  obtain ⟨u,y,ei,ru,ry⟩ := vals2 rv
  subst ei
  cases ru
  refine ⟨(kv.1,kv.2.1,y) :: prs,.cons ⟨rfl,rfl,ry⟩ r,by rw [List.length_cons,List.length_cons,hl],fun j q e=>?_⟩
  cases j with
  | zero =>
   have e' : (kv.1,kv.2.1,y) = q := Option.some.inj e
   subst e'
   exact ⟨p,rfl,⟨o,h1,h2,n,h3⟩,hk⟩
  | succ j =>
   obtain ⟨b,e1,e2,e3⟩ := hp j q (by simpa using e)
   exact ⟨b,by simpa using e1,e2,e3⟩
theorem kt_all {H : Hp} : ∀ {kvs : List (List Key × Addr × V)} {prs : List (List Key × Addr × Value)} {acc : List (List Key × V)} {xs : List (List Key × Addr × Value)},Paired (fun (p : List Key × Addr × V) (q : List Key × Addr × Value)=>p.1 = q.1 /\ p.2.1 = q.2.1 /\ RelV p.2.2 q.2.2) kvs prs ->
  (∀ q ∈ prs,H q.2.1 = some (.tup (q.1.map kV))) -> KT H acc xs -> KT H ((kvs.map fun x=>(x.1,x.2.2)).foldl (fun acc kv=>putK acc kv.1 kv.2) acc) (storedAllH xs prs)
 | _,_,acc,xs,.nil,_,r=>r
 | _,_,acc,xs,.cons (a := p) (b := q) h t,hk,r=>by
  obtain ⟨e1,e2,e3⟩ := h
  have hq := hk q List.mem_cons_self
  have := kt_all (H := H) t (fun z hz=>hk z (List.mem_cons_of_mem _ hz)) (r.put q.1 hq e3)
  rw [List.map_cons,List.foldl_cons,e1]
  exact this
theorem call_dictT (hc : X.calm = true) (hu : X.A.units + 64 < cLine) : CallR X (.type "dict") (rDictT X.K) := by
 intro pins s σ H xs us Q I r q
 obtain ⟨a,ps,kvs,rfl,hq,hp,q⟩ := q
 rw [Vals.ref1 r]
 obtain ⟨its,rv,pl,hz⟩ := I.list hq
 have ei := vals_ref_inv rv
 subst ei
 rw [List.length_map] at hz
 obtain ⟨prs,rel,hl,hpr⟩ := pairs_t I hp
 obtain ⟨o,n,ho,hcl,hd,hdat⟩ := pl
 have hks : ∀ x ∈ prs,H x.2.1 = some (.tup (x.1.map kV)) := fun x hx=>by
  obtain ⟨j,hj⟩ := List.mem_iff_getElem?.mp hx
  obtain ⟨_,_,_,h⟩ := hpr j x hj
  exact h
 let vps : List (Value × Value) := prs.map fun x=>(Value.ref x.2.1,x.2.2)
 have hvl : vps.length = ps.length := by rw [List.length_map]; exact hl
 have hat : ∀ (j : Nat) (k v : Value),vps[j]? = some (k,v) -> ∃ x,prs[j]? = some x /\ k = .ref x.2.1 /\ v = x.2.2 := fun j k v e=>by
  rw [List.getElem?_map] at e
  obtain ⟨x,h1,h2⟩ := Option.map_eq_some_iff.mp e
  cases h2
  exact ⟨x,h1,rfl,rfl⟩
 refine call_dict_pairsH (knd := tupleKind (mixKind X.prog X.w)) (ps := prs) (PairArg.list a (ps.map Value.ref).toArray (fun j=>ps.getD j 0) vps) (I.ok.hd hc) ?_ ⟨⟨o,n,ho,hcl,hd,hdat⟩,?_,fun j k v e=>?_⟩ ⟨?_,fun i key v e=>?_⟩ (fun h' kk x hx=>?_) (by rw [hvl]; exact hz) fun h' tk hd' k=>?_
 ·show X.A.in1.in1.units < cLine
  show X.A.units + 1 + 1 < cLine
  omega
 ·rw [hvl]; simp
 ·obtain ⟨x,h1,rfl,rfl⟩ := hat j k v e
  obtain ⟨b,e1,e2,_⟩ := hpr j x h1
  refine ⟨?_,.inl ?_⟩
  ·rw [List.getElem?_toArray,List.getElem?_map,e1]
   simp [List.getD,e1]
  ·have : ps.getD j 0 = b := by simp [List.getD,e1]
   show s.heap.IsTuple (ps.getD j 0) _
   rw [this]; exact e2
 ·rw [hvl,hl]
 ·obtain ⟨x,h1,rfl,rfl⟩ := hat i key v e
  exact ⟨x.1,x.2.1,h1,rfl⟩
 ·refine (tupleKind_stays (knd := mixKind X.prog X.w)).stays (fun b o vs n e _=>kk b o (Nat.ne_of_lt (Heap.lt_size e)) (fun z=>nomatch z) e) (key_of I.hok (hks x hx))
 ·have hm : (s.heap.objs.size == sysModules) = false := beq_eq_false_iff_ne.mpr (Nat.ne_of_gt I.big)
  have hn : H s.heap.objs.size = none := I.hok.fresh (Nat.le_refl _)
  have kt := kt_all (H := H) rel hks (acc := []) (xs := []) .nil
  obtain ⟨o',es,ep,g1,g2,g3,g4,_,g5⟩ := hd'
  have len : ∀ (l : List (List Key × V)) (acc : List (List Key × V)),(l.foldl (fun acc kv=>putK acc kv.1 kv.2) acc).length <= acc.length + l.length := by
   intro l
   induction l with
   | nil=>intro acc; simp
   | cons x l ih =>
    intro acc
    rw [List.foldl_cons,List.length_cons]
    have h1 := ih (putK acc x.1 x.2)
    have h2 := putK_len acc x.1 x.2
    omega
  have hlen := len (kvs.map fun x=>(x.1,x.2.2)) []
  rw [List.length_nil,List.length_map,Paired.length rel] at hlen
  refine ⟨.ref s.heap.objs.size,_,I.laid (t' := tk) (o := .dT ((kvs.map fun x=>(x.1,x.2.2)).foldl (fun acc kv=>putK acc kv.1 kv.2) [])) (fun b o e=>k b o (fun z=>nomatch z) e) (Nat.le_refl _) ?_,rfl,q _ hn⟩
  exact ⟨by omega,hm,storedAllH [] prs,kt.keeps (fun b ys e=>by rw [upd_ne (ne_of_none e hn)]; exact e),o',es,ep,g1,g2,g3,g4,g5⟩
end
end SrtK
namespace DL
open PySem PySem.Spec PyProof.Rows L2 SrtK
variable [TabL]
section
variable {K : PySem.W.Frag} {te ta tb tc td ty tv tx : TE} {tt tu : TT} {ts : TA} {ρ : Env} {Q : D -> Env -> Prop} {E : EndD}
def Sl.dat : Sl -> Option D
 | .sh d=>some d
 | .own _ d=>some d
 | _=>none
def RepT (K : PySem.W.Frag) (G H : Hp) (v : V) : D -> Prop
 | .lst ds=>∃ a vs,v = .ref a /\ H a = some (.lst vs) /\ Reps K G vs ds
 | .dk ps=>∃ a kvs,v = .ref a /\ Rd H a (.dK kvs) /\ kvs.map (·.1) = ps.map (·.1) /\ Reps K G (kvs.map (·.2)) (ps.map (·.2))
 | .dt ps=>∃ a kvs,v = .ref a /\ Rd H a (.dT kvs) /\ kvs.map (·.1) = ps.map (·.1) /\ Reps K G (kvs.map (·.2)) (ps.map (·.2))
 | .ins C ps=>∃ a dx fs,v = .ref a /\ H a = some (.ins (He.ga K C) dx fs) /\ fs.map (·.1) = ps.map (·.1) /\ Reps K G (fs.map (·.2)) (ps.map (·.2))
 | d=>Rep K G v d
theorem repT_rep {G H : Hp} {v : V} {d : D} (e : Ex G H) (h : Rep K G v d) : RepT K G H v d := by
 cases h with
 | lst a b=>exact ⟨_,_,rfl,e _ _ a,b⟩
 | dk a b c=>exact ⟨_,_,rfl,e.rdx.1 _ _ trivial a,b,c⟩
 | dt a b c=>exact ⟨_,_,rfl,e.rdx.1 _ _ trivial a,b,c⟩
 | ins a b c=>exact ⟨_,_,_,rfl,e _ _ a,b,c⟩
 | non=>exact .non
 | bl b=>exact .bl b
 | int b=>exact .int b
 | str b=>exact .str b
 | tup a b=>exact .tup a b
 | kt a b=>exact .kt a b
 | scr a=>exact .scr a
 | raw=>exact .raw
 | tag h=>exact .tag h
 | exc a b c d=>exact .exc a b c d
 | ex0 a=>exact .ex0 a
theorem repT_own {G H : Hp} {a : Addr} {d : D} (h : OwnR K G (H a) d) : RepT K G H (.ref a) d := by
 cases d with
 | lst _=>obtain ⟨vs,e,r⟩ := h; exact ⟨a,vs,rfl,e,r⟩
 | dk _=>obtain ⟨vs,e,k,r⟩ := h; exact ⟨a,vs,rfl,.inl e,k,r⟩
 | dt _=>obtain ⟨vs,e,k,r⟩ := h; exact ⟨a,vs,rfl,.inl e,k,r⟩
 | ins _ _=>obtain ⟨dx,vs,e,k,r⟩ := h; exact ⟨a,dx,vs,rfl,e,k,r⟩
 | _=>exact h.elim
theorem slot_rd {F G H : Hp} {σ : L2.St} {i : Nat} {d : D} (R : RE K F G H σ ρ) (h : (ρ[i]?.bind Sl.dat) = some d) : ∃ v,σ[i]? = some (some v) /\ RepT K G H v d := by
 cases hr : ρ[i]? with
 | none=>rw [hr] at h; cases h
 | some r =>
  rw [hr] at h
  obtain ⟨s,hs,q⟩ := R.sl.get hr
  cases r with
  | sh x=>cases h; obtain ⟨v,rfl,hv⟩ := q; exact ⟨v,hs,repT_rep R.wd.g hv⟩
  | own a x=>cases h; obtain ⟨rfl,_,_,ho⟩ := q; exact ⟨_,hs,repT_own ho⟩
  | un=>cases h
  | drw a=>cases h
  | two a b c d=>cases h
  | any S φ=>cases h
theorem rep_kDs {H : Hp} : ∀ {vs : List V} {ks : List Key},Reps K H vs (ks.map kD) -> vs = ks.map kV
 | _,[],h=>h.nil_inv
 | _,k :: ks,h=>by
  obtain ⟨v,ws,rfl,h1,h2⟩ := h.cons_inv
  rw [rep_kD h1,rep_kDs h2]; rfl
theorem reps_kD {H : Hp} : ∀ ks : List Key,Reps K H (ks.map kV) (ks.map kD)
 | []=>.nil
 | k :: ks=>.cons (rep_of_kD k) (reps_kD ks)
theorem rep_kT {H : Hp} {v : V} {ks : List Key} (h : Rep K H v (.tup (ks.map kD))) : ∃ b,v = .ref b /\ H b = some (.tup (ks.map kV)) := by
 obtain ⟨a,vs,rfl,h1,h2⟩ := rep_tup h
 rw [rep_kDs h2] at h1
 exact ⟨a,rfl,h1⟩
theorem ws_share {i : Nat} {a : Addr} {d : D} {t : TS} (hi : ρ[i]? = some (.own a d)) (h : WS K t (ρ.set i (.sh d)) E) : WS K t ρ E := fun F G H σ Dn R L=>by
 obtain ⟨o,_,_,hG,R',_⟩ := R.give hi
 exact h F _ H σ Dn R' (L.mono (Ex.new hG))
theorem ew_dgetVT {i : Nat} {d0 : D} (h0 : (ρ[i]?.bind Sl.dat) = some d0) (h : EvW K ty ρ fun y ρ2=>∃ k ps d,y = .tup (k.map kD) /\ (ρ2[i]?.bind Sl.dat) = some (.dt ps) /\ dget ps k = some d /\ Q d ρ2) : EvW K (tDGet (tVar i) ty) ρ Q := fun F G H σ R Q' k=>by
 obtain ⟨v,hv,_⟩ := slot_rd R h0
 refine ⟨v,hv,h F G H σ R _ fun w y ρ2 G2 H2 e2 R2 hw q2=>?_⟩
 obtain ⟨kk,ps,d,rfl,h2,hd,q⟩ := q2
 obtain ⟨v',hv',a,kvs,rfl,hr,r1,r2⟩ := slot_rd R2 h2
 rw [hv] at hv'; cases hv'
 obtain ⟨b,rfl,hb⟩ := rep_kT hw
 rcases dk_look kk r1 r2 with ⟨_,z2⟩ | ⟨v1,d1,z1,z2,z3⟩
 ·rw [hd] at z2; cases z2
 ·rw [hd] at z2; cases z2
  exact ⟨a,v1,rfl,.inr ⟨kvs,kk,b,hr,rfl,R2.wd.g _ _ hb,z1.symm⟩,k _ _ ρ2 G2 H2 e2 R2 z3 q⟩
theorem ws_dputT {i : Nat} {a : Addr} (h : EvW K tv ρ fun d ρ1=>(∃ p0,ρ1[i]? = some (.own a p0)) /\ EvW K ty ρ1 fun y ρ2=>∃ k ps,y = .tup (k.map kD) /\ ρ2[i]? = some (.own a (.dt ps)) /\ ps.length < 90000 /\ E.nx (ρ2.set i (.own a (.dt (dput ps k d))))) :
  WS K (sDPut (tVar i) ty tv) ρ E := fun F G H σ Dn R L =>
 h F G H σ R _ fun v d ρ1 G1 H1 e1 R1 hv q=>by
  obtain ⟨⟨p0,hi1⟩,q⟩ := q
  obtain ⟨_,hs1,rfl,_⟩ := R1.sl.get hi1
  refine ⟨.ref a,hs1,q F G1 H1 σ R1 _ fun w y ρ2 G2 H2 e2 R2 hw q2=>?_⟩
  obtain ⟨kk,ps,rfl,hi2,hl,q2⟩ := q2
  obtain ⟨_,hs2,e,hG,hF,kvs,hd,hk,hr⟩ := R2.sl.get hi2
  obtain ⟨z1,z2⟩ := put_rel (k := kk) hk hr (hv.mono e2)
  have hlen : kvs.length = ps.length := by have := congrArg List.length hk; simpa using this
  obtain ⟨b,rfl,hb⟩ := rep_kT hw
  refine ⟨a,upd H2 a (.dT (putK kvs kk v)),rfl,.inr ⟨kvs,kk,b,hd,rfl,R2.wd.g _ _ hb,by rw [hlen]; exact bigl (by omega),rfl⟩,?_⟩
  exact L.nx _ _ G2 _ (e1.trans e2) (R2.mut (r' := .own a (.dt (dput ps kk d))) hi2 (List.mem_singleton.mpr rfl) (List.Sublist.refl _) hs1 ⟨rfl,hG,hF,_,upd_same,z1,z2⟩) q2
theorem ew_lenV {i : Nat} {ds : List D} (h : (ρ[i]?.bind Sl.dat) = some (.lst ds)) (q : Q (.int ds.length) ρ) : EvW K (tCB (rLenU K) (tCons (tVar i) tNil)) ρ Q := fun F G H σ R Q' k=>by
 obtain ⟨v,hv,a,vs,rfl,h1,h2⟩ := slot_rd R h
 refine ⟨.ref a,hv,.inl (.inl ⟨a,vs,rfl,.inl (.inl (.inl h1)),?_⟩)⟩
 rw [h2.length]
 exact k _ _ ρ G H (Ex.refl G) R (.int _) q
theorem ew_ixV {i : Nat} {d0 : D} (h0 : (ρ[i]?.bind Sl.dat) = some d0) (h : EvW K tb ρ fun y ρ2=>∃ j ds d,y = .int j /\ (ρ2[i]?.bind Sl.dat) = some (.lst ds) /\ atI ds j = some d /\ Q d ρ2) : EvW K (tOp (rIx K) (tVar i) tb) ρ Q := fun F G H σ R Q' k=>by
 obtain ⟨v,hv,_⟩ := slot_rd R h0
 refine ⟨v,hv,h F G H σ R _ fun w y ρ2 G2 H2 e2 R2 hw q2=>?_⟩
 obtain ⟨j,ds,d,rfl,h2,hd,q⟩ := q2
 obtain ⟨v',hv',a,vs,rfl,h3,h4⟩ := slot_rd R2 h2
 rw [hv] at hv'; cases hv'
 obtain ⟨x,h5,h6⟩ := atI_rep h4 hd
 exact .inl ⟨a,vs,j,x,rfl,rep_int hw,.inl (.inl h3),h5,k _ _ ρ2 G2 H2 e2 R2 h6 q⟩
theorem ew_extend {i : Nat} {a : Addr} {d0 : List D} (hi : ρ[i]? = some (.own a (.lst d0))) (h : EvW K te ρ fun d ρ1=>∃ ds es,ρ1[i]? = some (.own a (.lst ds)) /\ d = .lst es /\ ds.length + es.length < 90000 /\ Q .non (ρ1.set i (.own a (.lst (ds ++ es))))) :
  EvW K (tBM K "list" rExtend (tVar i) (tCons te tNil)) ρ Q := fun F G H σ R Q' k=>by
 obtain ⟨s,hs,rfl,_,_,vs0,hd0,_⟩ := R.sl.get hi
 refine ⟨.ref a,hs,.inl ⟨rfl,vs0,.inl (.inl hd0)⟩,h F G H σ R _ fun v d ρ1 G1 H1 e1 R1 hv q=>?_⟩
 obtain ⟨ds,es,hi1,rfl,hl,q⟩ := q
 obtain ⟨_,hs1,e,hG,hF,vs,hd,hr⟩ := R1.sl.get hi1
 obtain ⟨b,ws,rfl,hb,hr2⟩ := rep_lst hv
 refine ⟨a,b,vs,ws,rfl,rfl,hd,R1.wd.g _ _ hb,by rw [hr.length,hr2.length]; exact big (by omega),?_⟩
 exact k .non .non _ G1 _ e1 (R1.mut (r' := .own a (.lst (ds ++ es))) hi1 (List.mem_singleton.mpr rfl) (List.Sublist.refl _) hs ⟨rfl,hG,hF,_,upd_same,hr.append hr2⟩) .non q
theorem op2_inK {neg : Bool} {x : Str} {ys : List Str} (q : Q (.bl (if neg then !decide (x ∈ ys) else decide (x ∈ ys))) ρ) : Op2 K (rIn K neg) (.str x) (.kt (strsD ys)) ρ Q := fun F G H σ R v w hv hw Q' k=>by
 rw [rep_str hv]
 have fin : Q' (.bl (if neg then !inV (.str x) (ys.map V.str) else inV (.str x) (ys.map V.str))) H := by
  rw [inV_strs]; exact k _ _ ρ G H (Ex.refl G) R (.bl _) q
 obtain ⟨a,vs,rfl,h1,h2⟩ := rep_kt hw
 rw [reps_strs h2] at h1
 exact ⟨a,_,rfl,.inr (R.wd.g.sqK h1),rfl,flat_strs ys,fin⟩
theorem RE.tupIn {F G H : Hp} {σ : L2.St} {q : Addr} {vs : List V} (R : RE K F G H σ ρ) (hq : H q = some (.tup vs)) : ∃ G',Ex G G' /\ RE K F G' H σ ρ /\ G' q = some (.tup vs) := by
 cases hG : G q with
 | some o =>
  have := R.wd.g _ _ hG
  rw [hq] at this; cases this
  exact ⟨G,Ex.refl G,R,hG⟩
 | none =>
  have hF : F q = none := by
   cases z : F q with
   | none=>rfl
   | some o =>
    have := R.wd.f _ _ z
    rw [hq] at this; cases this
    exact absurd z (R.wd.ft q vs)
  have hO : q ∉ ownA ρ := fun m=>by
   obtain ⟨_,_,u,hu,nt⟩ := R.sl.own m
   rw [hq] at hu; cases hu
   exact nt.1 vs rfl
  exact ⟨upd G q (.tup vs),Ex.new hG,R.share hq hG hF hO (fun _ z=>(nomatch z)),upd_same⟩
theorem tupsIn {F H : Hp} {σ : L2.St} : ∀ {bs : List Addr} {ks : List (List Key)} {G : Hp},RE K F G H σ ρ -> KeysAt H bs ks -> ∃ G',Ex G G' /\ RE K F G' H σ ρ /\ Reps K G' (bs.map V.ref) (ks.map fun k=>D.tup (k.map kD))
 | _,_,G,R,.nil=>⟨G,Ex.refl G,R,.nil⟩
 | _,_,G,R,.cons (a := b) (b := k) h r=>by
  obtain ⟨G1,e1,R1,h1⟩ := R.tupIn h
  obtain ⟨G2,e2,R2,h2⟩ := tupsIn R1 r
  exact ⟨G2,e1.trans e2,R2,.cons (.tup (e2 _ _ h1) (reps_kD k)) h2⟩
theorem KeysAt.up {H H' : Hp} (e : Ex H H') : ∀ {bs : List Addr} {ks : List (List Key)},KeysAt H bs ks -> KeysAt H' bs ks
 | _,_,.nil=>.nil
 | _,_,.cons h r=>.cons (e _ _ h) (KeysAt.up e r)
theorem opn_sortKD {ps : List (List Key × D)} {b : Bool} {sr : List Bool} (hs : ∀ k ∈ ps.map (·.1),shp k = b :: sr) (q : Q (.lst ((srtK (ps.map (·.1))).map fun k=>D.tup (k.map kD))) ρ) : OpN K rSortKD [.dt ps] ρ Q := fun F G H σ R vs hv Q' k=>by
 obtain ⟨v,rfl,h⟩ := hv.one
 obtain ⟨a,kvs,rfl,h1,h2,h3⟩ := rep_dt h
 refine ⟨a,kvs,b,sr,rfl,R.wd.g.rdx.1 _ _ trivial h1,by rw [h2]; exact hs,fun bs p hk hp=>?_⟩
 rw [h2] at hk
 obtain ⟨G1,e1,R1,r1⟩ := tupsIn R hk
 obtain ⟨z1,z2,z3,z4,z5⟩ := en_of R1 hp r1
 exact k p _ ρ G1 _ e1 z1 z2 z3 z4 z5 q
end
end DL
namespace DL
open PySem PySem.Spec PyProof.Rows L2 SrtK
variable [TabL]
section
variable {K : PySem.W.Frag} {te ta tb tc td ty tv tx tk : TE} {tt tu : TT} {ts : TA} {ρ : Env} {Q : D -> Env -> Prop} {E : EndD}
def dputs {κ : Type} [DecidableEq κ] (acc ps : List (κ × D)) : List (κ × D) := ps.foldl (fun a p=>dput a p.1 p.2) acc
theorem puts_rel {κ : Type} [DecidableEq κ] {H : Hp} : ∀ {kvs : List (κ × V)} {ps : List (κ × D)} {acc : List (κ × V)} {bcc : List (κ × D)},kvs.map (·.1) = ps.map (·.1) -> Reps K H (kvs.map (·.2)) (ps.map (·.2)) -> acc.map (·.1) = bcc.map (·.1) -> Reps K H (acc.map (·.2)) (bcc.map (·.2)) ->
  (kvs.foldl (fun a kv=>putK a kv.1 kv.2) acc).map (·.1) = (dputs bcc ps).map (·.1) /\ Reps K H ((kvs.foldl (fun a kv=>putK a kv.1 kv.2) acc).map (·.2)) ((dputs bcc ps).map (·.2))
 | [],[],acc,bcc,_,_,e,r=>⟨e,r⟩
 | [],_ :: _,_,_,e,_,_,_=>by simp at e
 | _ :: _,[],_,_,e,_,_,_=>by simp at e
 | kv :: kvs,p :: ps,acc,bcc,e,r,e2,r2=>by
  simp only [List.map_cons,List.cons.injEq] at e
  cases r with
  | cons h1 h2 =>
   obtain ⟨z1,z2⟩ := put_rel (k := kv.1) e2 r2 h1
   have := puts_rel (kvs := kvs) (ps := ps) e.2 h2 z1 z2
   rw [List.foldl_cons]
   unfold dputs
   rw [List.foldl_cons,<- e.1]
   exact this
theorem opn_dictT {ps : List (List Key × D)} (hl : ps.length <= 90000) (q : Q (.dt (dputs [] ps)) ρ) : OpN K (rDictT K) [.lst (ps.map fun p=>.tup [.tup (p.1.map kD),p.2])] ρ Q := fun F G H σ R vs hv Q' k=>by
 obtain ⟨v,rfl,h⟩ := hv.one
 obtain ⟨a,ws,rfl,h1,h2⟩ := rep_lst h
 have key : ∀ {ws : List V} {ps : List (List Key × D)},Reps K G ws (ps.map fun p=>.tup [.tup (p.1.map kD),p.2]) -> ∃ (bs : List Addr) (kvs : List (List Key × Addr × V)),ws = bs.map V.ref /\ Paired (fun p kv=>H p = some (.tup [.ref kv.2.1,kv.2.2]) /\ H kv.2.1 = some (.tup (kv.1.map kV))) bs kvs /\ (kvs.map fun x=>(x.1,x.2.2)).map (·.1) = ps.map (·.1) /\ Reps K G ((kvs.map fun x=>(x.1,x.2.2)).map (·.2)) (ps.map (·.2)) := by
  intro ws
  induction ws with
  | nil =>
   intro ps h
   cases ps with
   | nil=>exact ⟨[],[],rfl,.nil,rfl,.nil⟩
   | cons _ _=>cases h
  | cons w ws ih =>
   intro ps h
   cases ps with
   | nil=>cases h
   | cons p ps =>
    cases h with
    | cons h1 h2 =>
     obtain ⟨bs,kvs,e,pr,e1,r1⟩ := ih h2
     obtain ⟨b,us,rfl,g1,g2⟩ := rep_tup h1
     obtain ⟨u1,u2,rfl,g3,g4⟩ := g2.two
     obtain ⟨c,rfl,g5⟩ := rep_kT g3
     exact ⟨b :: bs,(p.1,c,u2) :: kvs,by rw [e]; rfl,.cons ⟨R.wd.g _ _ g1,R.wd.g _ _ g5⟩ pr,by simp only [List.map_cons]; rw [e1],.cons g4 r1⟩
 obtain ⟨bs,kvs,rfl,pr,e1,r1⟩ := key h2
 refine ⟨a,bs,kvs,rfl,.inl (.inl (R.wd.g _ _ h1)),pr,fun p hp=>?_⟩
 obtain ⟨z1,z2⟩ := puts_rel (acc := []) (bcc := []) e1 r1 rfl .nil
 exact k p (.dt (dputs [] ps)) ρ G _ (Ex.refl G) (R.alone hp) (R.wd.g.none hp) (R.wd.f.none hp) (ownA_fresh R hp) ⟨_,upd_same,z1,z2⟩ q
theorem kdictT {X : Cx} (hc : X.calm = true) (hu : X.A.units + 64 < cLine) (h : X.K = K) : CallR X (.type "dict") (rDictT K) := h ▸ call_dictT hc hu
def FzD (K : PySem.W.Frag) (G : Hp) (a : Addr) (od : Obj) : D -> Prop
 | .dk ps=>∃ kvs,G a = some (.frz od (.dK kvs)) /\ kvs.map (·.1) = ps.map (·.1) /\ Reps K G (kvs.map (·.2)) (ps.map (·.2))
 | .dt ps=>∃ kvs,G a = some (.frz od (.dT kvs)) /\ kvs.map (·.1) = ps.map (·.1) /\ Reps K G (kvs.map (·.2)) (ps.map (·.2))
 | _=>False
def D.isDict : D -> Bool
 | .dk _=>true
 | .dt _=>true
 | _=>false
def DictU (u : HO) : Prop := (∃ kvs,u = .dK kvs) \/ ∃ kvs,u = .dT kvs
theorem DictU.nt {u : HO} (h : DictU u) : ∀ xs,u ≠ .tup xs := fun xs z=>by rcases h with ⟨_,rfl⟩ | ⟨_,rfl⟩ <;> cases z
theorem DictU.nc {u : HO} (h : DictU u) : ∀ c q,u ≠ LamX.CodeO c q := fun c q z=>by unfold LamX.CodeO at z; rcases h with ⟨_,rfl⟩ | ⟨_,rfl⟩ <;> cases z
theorem DictU.mu {u : HO} (h : DictU u) : Mut (some u) := by rcases h with ⟨_,rfl⟩ | ⟨_,rfl⟩ <;> trivial
theorem rdx_lockU {G : Hp} {d : Addr} {od : Obj} {u : HO} (hu : DictU u) (hd : G d = some u) : RdX G (upd G d (.frz od u)) := by
 refine ⟨fun a w hw h=>?_,fun a C dx fs h=>?_,fun a xs h=>?_,fun a xs h=>?_,fun a φ h=>?_,fun a φ h=>?_⟩
 ·by_cases e : a = d
  ·subst e
   rcases h with h | ⟨o,h⟩
   ·rw [hd] at h; cases h; exact .inr ⟨od,upd_same⟩
   ·rw [hd] at h; rcases hu with ⟨_,rfl⟩ | ⟨_,rfl⟩ <;> cases h
  ·unfold Rd; rw [upd_ne e]; exact h
 all_goals
  have ne : a ≠ d := fun z=>by rw [z,hd] at h; rcases hu with ⟨_,rfl⟩ | ⟨_,rfl⟩ <;> cases h
  rw [upd_ne ne]; exact h
theorem rdx_unlockU {G : Hp} {d : Addr} {od : Obj} {u : HO} (hu : DictU u) (hd : G d = some (.frz od u)) : RdX G (upd G d u) := by
 refine ⟨fun a w hw h=>?_,fun a C dx fs h=>?_,fun a xs h=>?_,fun a xs h=>?_,fun a φ h=>?_,fun a φ h=>?_⟩
 ·by_cases e : a = d
  ·subst e
   rcases h with h | ⟨o,h⟩
   ·rw [hd] at h; cases h; exact hw.elim
   ·rw [hd] at h; cases h; exact .inl upd_same
  ·unfold Rd; rw [upd_ne e]; exact h
 all_goals
  have ne : a ≠ d := fun z=>by rw [z,hd] at h; cases h
  rw [upd_ne ne]; exact h
theorem dict_at {G : Hp} {v : V} {d0 : D} (h : Rep K G v d0) (hd : d0.isDict = true) : ∃ a u,v = .ref a /\ DictU u /\ ((G a = some u /\ ∀ od G',G' a = some (.frz od u) -> RdX G G' -> FzD K G' a od d0) \/ ∃ od,FzD K G a od d0) := by
 cases h with
 | @dk _ kvs _ h1 h2 h3 =>
  refine ⟨_,.dK kvs,rfl,.inl ⟨_,rfl⟩,?_⟩
  rcases h1 with h1 | ⟨o,h1⟩
  ·exact .inl ⟨h1,fun od G' e x=>⟨_,e,h2,h3.rdx x⟩⟩
  ·exact .inr ⟨o,_,h1,h2,h3⟩
 | @dt _ kvs _ h1 h2 h3 =>
  refine ⟨_,.dT kvs,rfl,.inr ⟨_,rfl⟩,?_⟩
  rcases h1 with h1 | ⟨o,h1⟩
  ·exact .inl ⟨h1,fun od G' e x=>⟨_,e,h2,h3.rdx x⟩⟩
  ·exact .inr ⟨o,_,h1,h2,h3⟩
 | non=>cases hd
 | bl _=>cases hd
 | int _=>cases hd
 | str _=>cases hd
 | lst _ _=>cases hd
 | tup _ _=>cases hd
 | kt _ _=>cases hd
 | ins _ _ _=>cases hd
 | scr _=>cases hd
 | raw=>cases hd
 | tag _=>cases hd
 | exc _ _ _ _=>cases hd
 | ex0 _=>cases hd
theorem ex_unlock {G G' : Hp} {a : Addr} {u : HO} {od : Obj} (hG : G a = some u) (e : Ex (upd G a (.frz od u)) G') : Ex G (upd G' a u) := fun b w z=>by
 by_cases eb : b = a
 ·subst eb; rw [hG] at z; cases z; exact upd_same
 ·rw [upd_ne eb]; exact e b w (by rw [upd_ne eb]; exact z)
theorem en_lock {i : Nat} {d0 : D} (hi : ρ[i]? = some (.sh d0)) (hd : d0.isDict = true) (h : ∀ F G H σ a od,RE K F G H σ ρ -> σ[i]? = some (some (.ref a)) -> FzD K G a od d0 -> ∀ Q' : VK,
  (∀ p d ρ' G' H',Ex G G' -> RE K F G' H' σ ρ' -> G' p = none -> F p = none -> p ∉ ownA ρ' -> OwnR K G' (H' p) d -> Q d ρ' -> Q' (.ref p) H') -> te σ H Q') : EvN K (fun σ H Q=>tLockE te σ H Q \/ te σ H Q) ρ Q := fun F G H σ R Q' k=>by
 obtain ⟨s,hs,v,rfl,hv⟩ := R.sl.get hi
 obtain ⟨a,u,rfl,hu,hcase⟩ := dict_at hv hd
 rcases hcase with ⟨hG,fz⟩ | ⟨od,fz⟩
 ·refine .inl ⟨a,u,R.wd.g _ _ hG,hu.mu,fun od=>?_⟩
  have x := rdx_lockU (od := od) hu hG
  have R1 := R.relock (u' := .frz od u) hG x hu.nt hu.nc
  refine h F _ _ σ a od R1 hs (fz od _ upd_same x) _ fun p d ρ' G' H' e R' hp hF hO o q=>?_
  have hG' := e _ _ (upd_same (H := G) (a := a) (o := .frz od u))
  have x2 := rdx_unlockU hu hG'
  have ne : p ≠ a := fun z=>by rw [z,hG'] at hp; cases hp
  refine ⟨R'.wd.g _ _ hG',k p d ρ' (upd G' a u) _ (ex_unlock hG e) (R'.relock hG' x2 (fun xs z=>nomatch z) (fun c q z=>by unfold LamX.CodeO at z; cases z)) (by rw [upd_ne ne]; exact hp) hF hO (by rw [upd_ne ne]; exact o.rdx x2) q⟩
 ·exact .inr (h F G H σ a od R hs fz Q' k)
def WalkD (K : PySem.W.Frag) (wi : TI) (i : Nat) (d0 : D) (ds : List D) : Prop := ∀ F G H σ ρ a od,RE K F G H σ ρ -> σ[i]? = some (some (.ref a)) -> FzD K G a od d0 -> ∀ R' : It -> Hp -> Prop,(∀ J,Yields K G J ds -> R' J H) -> wi σ H R'
theorem wk_keysT {i : Nat} {ps : List (List Key × D)} : WalkD K (iKeys (tVar i)) i (.dt ps) (ps.map fun p=>.tup (p.1.map kD)) := fun F G H σ ρ a od R hs fz R' k=>by
 obtain ⟨kvs,h1,h2,h3⟩ := fz
 have hlen : kvs.length = ps.length := by have := congrArg List.length h2; simpa using this
 refine ⟨.ref a,hs,a,od,rfl,.inr ⟨kvs,R.wd.g _ _ h1,k _ ⟨?_,?_,?_⟩⟩⟩
 ·intro F G2 H2 σ ρ i e R hi
  exact ⟨R.wd.g _ _ (e _ _ h1),by rw [List.length_map] at hi; omega⟩
 ·intro F G2 H2 σ ρ e R
  exact ⟨R.wd.g _ _ (e _ _ h1),by rw [List.length_map]; omega⟩
 ·intro F G2 H2 σ ρ i x H3 e R hi y
  obtain ⟨rfl,kk,v,q,hkv,rfl,hq⟩ := y
  obtain ⟨G3,e3,R3,h3⟩ := R.tupIn hq
  have z : (kvs.map (·.1))[i]? = some kk := by rw [List.getElem?_map,hkv]; rfl
  rw [h2,List.getElem?_map] at z
  obtain ⟨p,hp,rfl⟩ := Option.map_eq_some_iff.mp z
  exact ⟨G3,.tup (p.1.map kD),e3,R3,by rw [List.getElem?_map,hp]; rfl,.tup h3 (reps_kD _)⟩
end
end DL
namespace DL
open PySem PySem.Spec PyProof.Rows L2 SrtK
variable [TabL]
section
variable {K : PySem.W.Frag} {te ta tb tc td ty tv tx tk : TE} {tt tu : TT} {ts : TA} {ρ : Env} {Q : D -> Env -> Prop} {E : EndD}
theorem lc_core {J : It} {ds : List D} {g : TG} {vs : List Nat} {F G1 H1 : Hp} {σ : L2.St} {ρ1 : Env} (R1 : RE K F G1 H1 σ ρ1) (Y : Yields K G1 J ds) (hv0 : ownFree ρ1 vs = true) (hlen : ds.length <= 90000) (P : Nat -> List D -> Prop) (p0 : P 0 [])
   (turn : ∀ i d acc,ds[i]? = some d -> P i acc -> GV K g vs d (wipeE ρ1 vs) fun ρ2=>EvT K tt ρ2 fun b ρ3=>ρ3 = ρ2 /\ if b = true then EvW K te ρ2 fun y ρ4=>ρ4 = ρ2 /\ P (i + 1) (acc ++ [y]) else P (i + 1) acc)
   (fin : ∀ acc,P ds.length acc -> Q (.lst acc) ρ1) (Q' : VK) (k : ∀ p d ρ' G' H',Ex G1 G' -> RE K F G' H' σ ρ' -> G' p = none -> F p = none -> p ∉ ownA ρ' -> OwnR K G' (H' p) d -> Q d ρ' -> Q' (.ref p) H') : tLc (fun _ H R=>R J H) g tt te vs σ H1 Q' := fun Dd hD=>by
  have hv := ownFree_at hv0
  have hF0 : F Dd = none := R1.wd.f.none hD
  have hO : Dd ∉ ownA ρ1 := ownA_fresh R1 hD
  refine ⟨fun i m H'=>m + i = ds.length /\ ∃ acc accV G',Ex G1 G' /\ RE K F G' H' σ ρ1 /\ G' Dd = none /\ H' Dd = some (.lst accV) /\ Reps K G' accV acc /\ acc.length <= i /\ P i acc,
   ⟨ds.length,rfl,[],[],G1,Ex.refl _,R1.alone hD,R1.wd.g.none hD,upd_same,.nil,Nat.le_refl _,p0⟩,?_⟩
  rintro i m H' ⟨hm,acc,accV,G',e',R',hG,hH,ra,hl,p⟩
  have Rf := R'.frm hH hG hO ⟨fun _ z=>(nomatch z),fun _ z=>(nomatch z)⟩
  by_cases hi : i < ds.length
  ·refine .inr ⟨Y.go _ G' H' σ ρ1 i e' Rf hi,fun H2=>∃ acc accV G2,Ex G1 G2 /\ RE K F G2 H2 σ ρ1 /\ G2 Dd = none /\ H2 Dd = some (.lst accV) /\ Reps K G2 accV acc /\ acc.length <= i + 1 /\ P (i + 1) acc,fun H2 z=>⟨m - 1,by omega,by omega,z⟩,fun x H2 y=>?_⟩
   obtain ⟨G2,d,e2,R2,hd,hx⟩ := Y.yld _ G' H' σ ρ1 i x H2 e' Rf hi y
   refine turn i d acc hd p _ G2 H2 _ x (R2.wipe vs) hx _ fun σ2 ρ2 l2 s2 R3 w3=>?_
   refine ⟨?_,w3 _ G2 H2 σ2 R3 _ fun b ρ3 G4 H4 e4 R4 w4=>?_⟩
   ·have e0 : L2.wipe (L2.wipe σ vs) vs = L2.wipe σ vs := wipe_eq (L2.wipe_length σ vs) fun i hi=>wipe_at hi
    rw [wipe_eq l2 fun i hi=>(s2 i hi).1,e0]
   obtain ⟨rfl,w4⟩ := w4
   have back : ∀ {G5 H5 : Hp},Ex G2 G5 -> RE K (upd F Dd (.lst accV)) G5 H5 σ2 ρ3 -> RE K F G5 H5 σ ρ1 /\ H5 Dd = some (.lst accV) /\ G5 Dd = none := fun {G5 H5} e5 R5=>by
    obtain ⟨R6,h6,g6⟩ := R5.unfrm hF0
    refine ⟨⟨R6.wd,Slots.join (e2.trans e5) R'.sl R6.sl (fun j r hr ho=>?_),R'.nd⟩,h6,g6⟩
    have hj := hv j r hr ho
    rw [(s2 j hj).1,(s2 j hj).2,wipe_at hj,wipeE_at hj]
    exact ⟨hr,rfl⟩
   cases b with
   | true =>
    refine w4 _ G4 H4 σ2 R4 _ fun v yv ρ5 G5 H5 e5 R5 hvy w5=>?_
    obtain ⟨rfl,w5⟩ := w5
    obtain ⟨R6,h6,g6⟩ := back (e4.trans e5) R5
    refine ⟨accV,h6,by rw [ra.length]; exact bigl (by omega),acc ++ [yv],accV ++ [v],G5,((e'.trans e2).trans e4).trans e5,R6.aloneU g6 hF0 hO h6 ⟨fun _ z=>(nomatch z),fun _ z=>(nomatch z)⟩,g6,upd_same,(ra.mono ((e2.trans e4).trans e5)).append (.cons hvy .nil),by simp; omega,w5⟩
   | false =>
    obtain ⟨R6,h6,g6⟩ := back e4 R4
    exact ⟨acc,accV,G4,(e'.trans e2).trans e4,R6,g6,h6,ra.mono (e2.trans e4),by omega,w4⟩
  ·have ei : i = ds.length := by omega
   subst ei
   exact .inl ⟨Y.stop _ G' H' σ ρ1 e' R',k Dd (.lst acc) ρ1 G' H' e' R' hG hF0 hO ⟨accV,hH,ra⟩ (fin acc p)⟩
theorem en_lcD {wi : TI} {g : TG} {vs : List Nat} {i0 : Nat} {d0 : D} {ds : List D} (hi : ρ[i0]? = some (.sh d0)) (hd : d0.isDict = true) (W : WalkD K wi i0 d0 ds) (hv0 : ownFree ρ vs = true) (hlen : ds.length <= 90000) (P : Nat -> List D -> Prop) (p0 : P 0 [])
   (turn : ∀ i d acc,ds[i]? = some d -> P i acc -> GV K g vs d (wipeE ρ vs) fun ρ2=>EvT K tt ρ2 fun b ρ3=>ρ3 = ρ2 /\ if b = true then EvW K te ρ2 fun y ρ4=>ρ4 = ρ2 /\ P (i + 1) (acc ++ [y]) else P (i + 1) acc)
   (fin : ∀ acc,P ds.length acc -> Q (.lst acc) ρ) : EvN K (fun σ H Q=>tLockE (tLc wi g tt te vs) σ H Q \/ tLc wi g tt te vs σ H Q) ρ Q :=
 en_lock hi hd fun F G H σ a od R hs fz Q' k=>W F G H σ ρ a od R hs fz _ fun J Y=>lc_core R Y hv0 hlen P p0 turn fin Q' k
theorem en_lcM {wi : TI} {g : TG} {vs : List Nat} {f : D -> D} (h : EvI K wi ρ fun ds ρ1=>ownFree ρ1 vs = true /\ ds.length <= 90000 ∧
   (∀ (i : Nat) d,ds[i]? = some d -> GV K g vs d (wipeE ρ1 vs) fun ρ2=>EvW K te ρ2 fun y ρ4=>ρ4 = ρ2 /\ y = f d) ∧
   Q (.lst (ds.map f)) ρ1) : EvN K (tLc wi g tYes te vs) ρ Q := by
 refine en_lc fun F G H σ R R' k=>h F G H σ R R' fun J ds ρ' G' H' e R1 Y q=>k J ds ρ' G' H' e R1 Y ?_
 obtain ⟨h1,h2,h3,h4⟩ := q
 refine ⟨h1,h2,fun i acc=>acc = (ds.map f).take i,rfl,fun i d acc hd hp=>?_,fun acc hp=>?_⟩
 ·subst hp
  refine fun F G H σ v R hv Q' k=>h3 i d hd F G H σ v R hv Q' fun σ' ρ2 l s R2 q2=>k σ' ρ2 l s R2 (et_yes ⟨rfl,?_⟩)
  show EvW K te ρ2 _
  refine ew_weak q2 fun y ρ4 z=>⟨z.1,?_⟩
  show _ ++ [y] = List.take (i + 1) _
  rw [z.2,List.take_add_one]
  simp [hd]
 ·subst hp
  have e : (ds.map f).take ds.length = ds.map f := List.take_of_length_le (by simp)
  rw [e]; exact h4
end
end DL
namespace DL
open PySem PySem.Spec PyProof.Rows L2 SrtK RZ
variable [TabL]
theorem pe_either {X : Cx} {e : Expr} {t u : TE} (h : PE X e t) (h' : PE X e u) : PE X e (fun σ H Q=>t σ H Q \/ u σ H Q) :=
 ⟨fun pins s σ H Q I q=>q.elim (fun q=>h.run pins s σ H Q I q) fun q=>h'.run pins s σ H Q I q⟩
theorem kzipA {X : Cx} {K : PySem.W.Frag} {e e2 : Expr} {ta : TA} {p pos tpos : Pos} {elts : List Expr} {kk : Nat} (h : X.K = K) (hg : Gl X "zip") (hm : X.mg "zip" = none) (ha : PA X [e,e2] ta)
  (hs : starEach [e,e2] X.env = (false,eval e X.env) :: starEach [e2] X.env := by rfl) (hpl : (backTo pos (starEach [e2] X.env)).any (·.1) = false := by rfl) :
  PI X (.Tuple elts kk tpos) (.Call (.Name "zip" p) [e,e2] [] pos) (iZipA K ta) := h ▸ pi_zipA hg hm ha hs hpl
section
variable {K : PySem.W.Frag} {te ta tb tc td ty tv tx tk : TE} {tt tu : TT} {ts : TA} {ρ : Env} {Q : D -> Env -> Prop} {E : EndD}
def zipD (xs ys : List D) : List D := xs.zipWith (fun x y=>D.tup [x,y]) ys
theorem zipD_len {xs ys : List D} : (zipD xs ys).length = min xs.length ys.length := List.length_zipWith ..
theorem zipD_at {xs ys : List D} {i : Nat} {d : D} (h : (zipD xs ys)[i]? = some d) : ∃ x y,xs[i]? = some x /\ ys[i]? = some y /\ d = .tup [x,y] := by
 unfold zipD at h
 rw [List.getElem?_zipWith] at h
 cases hx : xs[i]? with
 | none=>rw [hx] at h; simp at h
 | some x =>
  cases hy : ys[i]? with
  | none=>rw [hx,hy] at h; simp at h
  | some y=>rw [hx,hy] at h; simp at h; exact ⟨x,y,rfl,rfl,h.symm⟩
theorem yl_zip {G : Hp} {a b : Addr} {vs ws : List V} {xs ys : List D} (h1 : G a = some (.lst vs)) (h2 : Reps K G vs xs) (h3 : G b = some (.lst ws)) (h4 : Reps K G ws ys) : Yields K G (Itz K a b) (zipD xs ys) where
 go := fun F G2 H2 σ ρ i e R hi=>by
  rw [zipD_len] at hi
  have l1 : i < vs.length := by rw [h2.length]; omega
  have l2 : i < ws.length := by rw [h4.length]; omega
  exact ⟨vs,ws,vs[i],ws[i],.inl (.inl (R.wd.g _ _ (e _ _ h1))),.inl (.inl (R.wd.g _ _ (e _ _ h3))),List.getElem?_eq_getElem l1,List.getElem?_eq_getElem l2⟩
 stop := fun F G2 H2 σ ρ e R=>⟨vs,ws,.inl (.inl (R.wd.g _ _ (e _ _ h1))),.inl (.inl (R.wd.g _ _ (e _ _ h3))),by rw [zipD_len,h2.length,h4.length]; omega⟩
 yld := fun F G2 H2 σ ρ i x H3 e R hi y=>by
  obtain ⟨T,u,v,rfl,hT,rfl,y1,y2⟩ := y
  have q1 := y1 vs (.inl (.inl (R.wd.g _ _ (e _ _ h1))))
  have q2 := y2 ws (.inl (.inl (R.wd.g _ _ (e _ _ h3))))
  obtain ⟨d1,e1,r1⟩ := h2.getV q1
  obtain ⟨d2,e2,r2⟩ := h4.getV q2
  have en := Ex.new (o := .tup [u,v]) (R.wd.g.none hT)
  refine ⟨_,.tup [d1,d2],en,R.new hT,?_,.tup upd_same (.cons ((r1.mono e).mono en) (.cons ((r2.mono e).mono en) .nil))⟩
  unfold zipD
  rw [List.getElem?_zipWith,e1,e2]
theorem yl_zipT {G : Hp} {a b : Addr} {vs ws : List V} {xs ys : List D} (h1 : G a = some (.tup vs)) (h2 : Reps K G vs xs) (h3 : G b = some (.tup ws)) (h4 : Reps K G ws ys) : Yields K G (ItzT K a b) (zipD xs ys) where
 go := fun F G2 H2 σ ρ i e R hi=>by
  rw [zipD_len] at hi
  have l1 : i < vs.length := by rw [h2.length]; omega
  have l2 : i < ws.length := by rw [h4.length]; omega
  exact ⟨vs,ws,vs[i],ws[i],R.wd.g.sqT (e _ _ h1),R.wd.g.sqT (e _ _ h3),List.getElem?_eq_getElem l1,List.getElem?_eq_getElem l2⟩
 stop := fun F G2 H2 σ ρ e R=>⟨vs,ws,R.wd.g.sqT (e _ _ h1),R.wd.g.sqT (e _ _ h3),by rw [zipD_len,h2.length,h4.length]; omega⟩
 yld := fun F G2 H2 σ ρ i x H3 e R hi y=>by
  obtain ⟨T,u,v,rfl,hT,rfl,y1,y2⟩ := y
  have q1 := y1 vs (R.wd.g.sqT (e _ _ h1))
  have q2 := y2 ws (R.wd.g.sqT (e _ _ h3))
  obtain ⟨d1,e1,r1⟩ := h2.getV q1
  obtain ⟨d2,e2,r2⟩ := h4.getV q2
  have en := Ex.new (o := .tup [u,v]) (R.wd.g.none hT)
  refine ⟨_,.tup [d1,d2],en,R.new hT,?_,.tup upd_same (.cons ((r1.mono e).mono en) (.cons ((r2.mono e).mono en) .nil))⟩
  unfold zipD
  rw [List.getElem?_zipWith,e1,e2]
theorem ei_zip {Q : List D -> Env -> Prop} (h : EvA K ts ρ fun ds ρ1=>∃ xs ys,(ds = [.lst xs,.lst ys] \/ ds = [.tup xs,.tup ys]) /\ Q (zipD xs ys) ρ1) : EvI K (iZipA K ts) ρ Q := fun F G H σ R R' k =>
 h F G H σ R _ fun vs ds ρ1 G1 H1 e1 R1 hv q=>by
  obtain ⟨xs,ys,hds,q⟩ := q
  rcases hds with rfl | rfl
  ·obtain ⟨v,w,rfl,a1,a2⟩ := hv.two
   obtain ⟨a,us,rfl,h1,h2⟩ := rep_lst a1
   obtain ⟨b,ws,rfl,h3,h4⟩ := rep_lst a2
   exact ⟨a,b,us,ws,rfl,.inl ⟨.inl (.inl (R1.wd.g _ _ h1)),.inl (.inl (R1.wd.g _ _ h3)),k _ _ ρ1 G1 H1 e1 R1 (yl_zip h1 h2 h3 h4) q⟩⟩
  ·obtain ⟨v,w,rfl,a1,a2⟩ := hv.two
   obtain ⟨a,us,rfl,h1,h2⟩ := rep_tup a1
   obtain ⟨b,ws,rfl,h3,h4⟩ := rep_tup a2
   exact ⟨a,b,us,ws,rfl,.inr ⟨R1.wd.g.sqT h1,R1.wd.g.sqT h3,k _ _ ρ1 G1 H1 e1 R1 (yl_zipT h1 h2 h3 h4) q⟩⟩
end
theorem srtK_mem {ks : List (List Key)} {k : List Key} : k ∈ srtK ks ↔ k ∈ ks := (srt_perm lexK_swo ks).mem_iff
theorem srtK_len (ks : List (List Key)) : (srtK ks).length = ks.length := (srt_perm lexK_swo ks).length_eq
theorem srtK_nodup {ks : List (List Key)} (h : ks.Nodup) : (srtK ks).Nodup := (srt_perm lexK_swo ks).nodup_iff.mpr h
section
variable {K : PySem.W.Frag} {te ta tb tc td ty tv tx tk : TE} {tt tu : TT} {ts : TA} {ρ : Env} {Q : D -> Env -> Prop} {E : EndD} {α : Type}
theorem filter_take' {p : α -> Bool} {ds : List α} {i : Nat} {d : α} (h : ds[i]? = some d) : (ds.take (i + 1)).filter p = (ds.take i).filter p ++ (if p d = true then [d] else []) := by
 rw [List.take_add_one,h,List.filter_append]
 congr 1
 by_cases z : p d = true
 ·rw [if_pos z]; exact List.filter_cons_of_pos z
 ·rw [if_neg z]; exact List.filter_cons_of_neg z
theorem en_lcFt {wi : TI} {g : TG} {vs : List Nat} (e : α -> D) (ys : List α) (f : α -> D) (p : α -> Bool) (h : EvI K wi ρ fun ds ρ1=>ds = ys.map e /\ ownFree ρ1 vs = true /\ ys.length <= 90000 ∧
   (∀ y ∈ ys,GV K g vs (e y) (wipeE ρ1 vs) fun ρ2=>EvT K tt ρ2 fun b ρ3=>ρ3 = ρ2 /\ b = p y /\ (p y = true -> EvW K te ρ2 fun z ρ4=>ρ4 = ρ2 /\ z = f y)) ∧
   Q (.lst ((ys.filter p).map f)) ρ1) : EvN K (tLc wi g tt te vs) ρ Q := by
 refine en_lc fun F G H σ R R' k=>h F G H σ R R' fun J ds ρ' G' H' e R1 Y q=>k J ds ρ' G' H' e R1 Y ?_
 obtain ⟨rfl,h1,h2,h3,h4⟩ := q
 refine ⟨h1,by rw [List.length_map]; exact h2,fun i acc=>acc = ((ys.take i).filter p).map f,by simp,fun i d acc hd hp=>?_,fun acc hp=>?_⟩
 ·subst hp
  rw [List.getElem?_map] at hd
  obtain ⟨y,hy,rfl⟩ := Option.map_eq_some_iff.mp hd
  refine fun F G H σ v R hv Q' k=>h3 y (List.mem_of_getElem? hy) F G H σ v R hv Q' fun σ' ρ2 l s R2 q2=>k σ' ρ2 l s R2 (et_weak q2 fun b ρ3 z=>⟨z.1,?_⟩)
  obtain ⟨_,rfl,z⟩ := z
  have e := filter_take' (p := p) hy
  cases c : p y with
  | true =>
   rw [if_pos rfl]
   refine ew_weak (z c) fun y ρ4 w=>⟨w.1,?_⟩
   show _ = List.map f (List.filter p (List.take (i + 1) ys))
   rw [e,c,w.2,if_pos rfl,List.map_append]; rfl
  | false =>
   rw [if_neg (by decide)]
   show _ = List.map f (List.filter p (List.take (i + 1) ys))
   rw [e,c,if_neg (by decide),List.append_nil]
 ·subst hp
  rw [List.length_map,List.take_length]; exact h4
theorem en_lcMt {wi : TI} {g : TG} {vs : List Nat} (e : α -> D) (ys : List α) (f : α -> D) (h : EvI K wi ρ fun ds ρ1=>ds = ys.map e /\ ownFree ρ1 vs = true /\ ys.length <= 90000 ∧
   (∀ y ∈ ys,GV K g vs (e y) (wipeE ρ1 vs) fun ρ2=>EvW K te ρ2 fun z ρ4=>ρ4 = ρ2 /\ z = f y) ∧
   Q (.lst (ys.map f)) ρ1) : EvN K (tLc wi g tYes te vs) ρ Q := by
 refine en_lc fun F G H σ R R' k=>h F G H σ R R' fun J ds ρ' G' H' e R1 Y q=>k J ds ρ' G' H' e R1 Y ?_
 obtain ⟨rfl,h1,h2,h3,h4⟩ := q
 refine ⟨h1,by rw [List.length_map]; exact h2,fun i acc=>acc = (ys.take i).map f,by simp,fun i d acc hd hp=>?_,fun acc hp=>?_⟩
 ·subst hp
  rw [List.getElem?_map] at hd
  obtain ⟨y,hy,rfl⟩ := Option.map_eq_some_iff.mp hd
  refine fun F G H σ v R hv Q' k=>h3 y (List.mem_of_getElem? hy) F G H σ v R hv Q' fun σ' ρ2 l s R2 q2=>k σ' ρ2 l s R2 (et_yes ⟨rfl,?_⟩)
  refine ew_weak q2 fun z ρ4 w=>⟨w.1,?_⟩
  show _ ++ [z] = List.map f (List.take (i + 1) ys)
  rw [w.2,List.take_add_one,hy,List.map_append]; rfl
 ·subst hp
  rw [List.length_map,List.take_length]; exact h4
theorem en_lcDMt {wi : TI} {g : TG} {vs : List Nat} {i0 : Nat} {d0 : D} (e : α -> D) (ys : List α) (f : α -> D) (hi : ρ[i0]? = some (.sh d0)) (hd : d0.isDict = true) (W : WalkD K wi i0 d0 (ys.map e)) (hv0 : ownFree ρ vs = true) (hlen : ys.length <= 90000)
   (turn : ∀ y ∈ ys,GV K g vs (e y) (wipeE ρ vs) fun ρ2=>EvW K te ρ2 fun z ρ4=>ρ4 = ρ2 /\ z = f y)
   (fin : Q (.lst (ys.map f)) ρ) : EvN K (fun σ H Q=>tLockE (tLc wi g tYes te vs) σ H Q \/ tLc wi g tYes te vs σ H Q) ρ Q := by
 refine en_lcD hi hd W hv0 (by rw [List.length_map]; exact hlen) (fun i acc=>acc = (ys.take i).map f) (by simp) (fun i d acc hd hp=>?_) (fun acc hp=>?_)
 ·subst hp
  rw [List.getElem?_map] at hd
  obtain ⟨y,hy,rfl⟩ := Option.map_eq_some_iff.mp hd
  refine fun F G H σ v R hv Q' k=>turn y (List.mem_of_getElem? hy) F G H σ v R hv Q' fun σ' ρ2 l s R2 q2=>k σ' ρ2 l s R2 (et_yes ⟨rfl,?_⟩)
  refine ew_weak q2 fun z ρ4 w=>⟨w.1,?_⟩
  rw [w.2,List.take_add_one,hy,List.map_append]; rfl
 ·subst hp
  rw [List.length_map,List.take_length]; exact fin
end
section
variable {κ : Type} [DecidableEq κ]
theorem dputs_nodup : ∀ (ps acc : List (κ × D)),((acc ++ ps).map (·.1)).Nodup -> dputs acc ps = acc ++ ps
 | [],acc,_=>(List.append_nil _).symm
 | p :: ps,acc,h=>by
  have hk : p.1 ∉ acc.map (·.1) := fun m=>by
   rw [List.map_append,List.nodup_append] at h
   exact h.2.2 _ m _ (by simp) rfl
  have e : dput acc p.1 p.2 = acc ++ [p] := by
   unfold dput
   have : (acc.any fun kv=>decide (kv.1 = p.1)) = false := by
    rw [Bool.eq_false_iff]
    intro z
    obtain ⟨q,hq,e⟩ := List.any_eq_true.mp z
    exact hk (List.mem_map.mpr ⟨q,hq,of_decide_eq_true e⟩)
   rw [this,if_neg (by decide)]
  show dputs (dput acc p.1 p.2) ps = _
  rw [e,dputs_nodup ps (acc ++ [p]) (by rw [List.append_assoc]; exact h),List.append_assoc]; rfl
end
end DL
namespace DL
open PySem PySem.Spec PyProof.Rows L2 SrtK
variable [TabL]
theorem slots_un {K : PySem.W.Frag} {F G H : Hp} : ∀ n : Nat,Slots K F G H (List.replicate n none) (List.replicate n Sl.un)
 | 0=>trivial
 | n + 1=>⟨trivial,slots_un n⟩
inductive PyOk : Nat -> D -> Prop
 | non {n : Nat} : PyOk n .non
 | bl {n : Nat} (b : Bool) : PyOk n (.bl b)
 | int {n : Nat} (i : Int) : PyOk n (.int i)
 | str {n : Nat} {x : Str} : PyData.strOk x = true -> PyOk n (.str x)
 | lst {n : Nat} {xs : List D} : (∀ x ∈ xs,PyOk n x) -> PyOk (n + 1) (.lst xs)
 | tup {n : Nat} {xs : List D} : (∀ x ∈ xs,PyOk n x) -> PyOk (n + 1) (.tup xs)
theorem pyOk_all {n : Nat} (ih : ∀ x,PyOk n x -> ∃ p,toPy x = some p /\ p.canLay0 = true /\ p.depth <= n) : ∀ xs : List D,(∀ x ∈ xs,PyOk n x) -> ∃ ps,toPys xs = some ps /\ PyData.canLayAll0 ps = true /\ PyData.depthAll ps <= n
 | [],_=>⟨[],by rw [toPys],by simp [PyData.canLayAll0],by simp [PyData.depthAll]⟩
 | x :: xs,h=>by
  obtain ⟨p,h1,h2,h3⟩ := ih x (h x List.mem_cons_self)
  obtain ⟨ps,g1,g2,g3⟩ := pyOk_all ih xs fun y hy=>h y (List.mem_cons_of_mem _ hy)
  refine ⟨p :: ps,by rw [toPys,h1,g1],?_,?_⟩
  ·rw [PyData.canLayAll0,h2,g2]; rfl
  ·rw [PyData.depthAll]; omega
theorem pyOk_py : ∀ (n : Nat) (x : D),PyOk n x -> ∃ p,toPy x = some p /\ p.canLay0 = true /\ p.depth <= n
 | _,_,.non=>⟨.none,by rw [toPy],by simp [PyData.canLay0],by simp [PyData.depth]⟩
 | _,_,.bl b=>⟨.bool b,by rw [toPy],by simp [PyData.canLay0],by simp [PyData.depth]⟩
 | _,_,.int b=>⟨.int b,by rw [toPy],by simp [PyData.canLay0],by simp [PyData.depth]⟩
 | _,_,.str (x := b) h=>⟨.str b,by rw [toPy],by rw [PyData.canLay0]; exact h,by simp [PyData.depth]⟩
 | n + 1,.lst xs,.lst h=>by
  obtain ⟨ps,h1,h2,h3⟩ := pyOk_all (pyOk_py n) xs h
  exact ⟨.list ps,by rw [toPy,h1]; rfl,by rw [PyData.canLay0]; exact h2,by rw [PyData.depth]; omega⟩
 | n + 1,.tup xs,.tup h=>by
  obtain ⟨ps,h1,h2,h3⟩ := pyOk_all (pyOk_py n) xs h
  exact ⟨.tuple ps,by rw [toPy,h1]; rfl,by rw [PyData.canLay0]; exact h2,by rw [PyData.depth]; omega⟩
section
variable {K : PySem.W.Frag} {te ta tb tc td ty tv tx tk : TE} {tt tu : TT} {ts : TA} {t u : TS} {ρ : Env} {Q : D -> Env -> Prop} {E : EndD}
theorem op2_neSelf {x : D} {n : Nat} (h : PyOk n x) (hn : n <= 64) (q : Q (.bl false) ρ) : Op2 K (rNeD K) x x ρ Q := by
 obtain ⟨p,h1,h2,h3⟩ := pyOk_py n x h
 have sh : SeqAt.shaped p = true := by
  unfold SeqAt.shaped
  rw [h2,decide_eq_true (Nat.le_trans h3 hn)]; rfl
 refine op2_neD h1 h1 sh sh ?_
 rw [SeqAt.eqv_refl p h2]
 exact q
theorem ws_mid (C : Env -> Prop) (h : WS K t ρ { E with nx := C }) (k : ∀ ρ',C ρ' -> WS K u ρ' E) : WS K (tSeq t u) ρ E := ws_seq fun F G H σ Dn R L=>h F G H σ Dn R ⟨fun σ' ρ' G' H' e R' q=>L.nx σ' ρ' G' H' e R' (k ρ' q),L.rt,L.bk,L.ct,L.ro,L.xx⟩
end
end DL
namespace DL
open PySem PySem.Spec PyProof.Rows L2 SrtK
variable [TabL]
inductive Ag where
 | sh (d : D) | ow (d : D) | dr
inductive RV where
 | sh (d : D) | nw (d : D)
def RV.d : RV -> D
 | .sh d=>d
 | .nw d=>d
def Sl.er : Sl -> Ag
 | .sh d=>.sh d
 | .own _ d=>.ow d
 | .drw _=>.dr
 | _=>.sh .non
def Sl.isArg : Sl -> Bool
 | .sh _=>true
 | .own _ _=>true
 | .drw _=>true
 | _=>false
def SameS : Sl -> Sl -> Prop
 | .sh d,s=>s = .sh d
 | .own a _,s=>∃ d,s = .own a d
 | .drw a,s=>s = .drw a
 | _,_=>False
def SameA : Env -> Env -> Prop
 | [],[]=>True
 | r :: ρ,s :: τ=>SameS r s /\ SameA ρ τ
 | _,_=>False
section
variable {K : PySem.W.Frag} {te ta tb tc td ty tv tx tk : TE} {tt tu : TT} {ts : TA} {t u : TS} {ρ : Env} {E : EndD}
theorem SameS.adr {r s : Sl} (h : SameS r s) : s.adr = r.adr := by
 cases r with
 | sh d=>rw [show s = .sh d from h]
 | own a d=>obtain ⟨d',rfl⟩ := h; rfl
 | drw a=>rw [show s = .drw a from h]
 | _=>exact h.elim
theorem SameA.own : ∀ {ρ τ : Env},SameA ρ τ -> ownA τ = ownA ρ
 | [],[],_=>rfl
 | [],_ :: _,h=>h.elim
 | _ :: _,[],h=>h.elim
 | r :: ρ,s :: τ,h=>by rw [ownA_cons,ownA_cons,h.1.adr,SameA.own h.2]
def RvOk (K : PySem.W.Frag) (F G H : Hp) (ρ : Env) (v : V) : RV -> Prop
 | .sh d=>Rep K G v d
 | .nw d=>∃ p,v = .ref p /\ G p = none /\ F p = none /\ p ∉ ownA ρ /\ OwnR K G (H p) d
def EvR (K : PySem.W.Frag) (te : TE) (ρ : Env) (Q : RV -> Env -> Prop) : Prop := ∀ F G H σ,RE K F G H σ ρ -> ∀ Q' : VK,
 (∀ v r ρ' G' H',Ex G G' -> RE K F G' H' σ ρ' -> RvOk K F G' H' ρ' v r -> Q r ρ' -> Q' v H') -> te σ H Q'
theorem ew_rv {Q : D -> Env -> Prop} (h : EvR K te ρ fun r ρ'=>Q r.d ρ') : EvW K te ρ Q := fun F G H σ R Q' k=>h F G H σ R Q' fun v r ρ' G' H' e R' hr q=>by
 cases r with
 | sh d=>exact k v d ρ' G' H' e R' hr q
 | nw d =>
  obtain ⟨p,rfl,hG,hF,hO,o⟩ := hr
  obtain ⟨u,hu,hm⟩ := o.some
  exact k (.ref p) d ρ' (upd G' p u) H' (e.trans (Ex.new hG)) (R'.share hu hG hF hO (nt_mut hm).2) (ownR_rep o (by rw [upd_same,hu]) (Ex.new hG)) q
theorem en_rv {Q : D -> Env -> Prop} (h : EvR K te ρ fun r ρ'=>∃ d,r = .nw d /\ Q d ρ') : EvN K te ρ Q := fun F G H σ R Q' k=>h F G H σ R Q' fun v r ρ' G' H' e R' hr q=>by
 obtain ⟨d,rfl,q⟩ := q
 obtain ⟨p,rfl,hG,hF,hO,o⟩ := hr
 exact k p d ρ' G' H' e R' hG hF hO o q
def spU (K : PySem.W.Frag) (T : List Ag -> (RV -> List Ag -> Prop) -> (Str -> Str -> D -> Prop) -> Prop) : Sp := fun vs H Q W=>∃ F G ags Qd X,RE K F G H (vs.map some) ags /\ (∀ s ∈ ags,s.isArg = true) /\ T (ags.map Sl.er) Qd X ∧
 (∀ v r ags' G' H',Ex G G' -> RE K F G' H' (vs.map some) ags' -> SameA ags ags' -> RvOk K F G' H' ags' v r -> Qd r (ags'.map Sl.er) -> Q v H') /\ XLink K F G W X
def FinL : Env -> Env -> (List Ag -> Prop) -> Prop
 | [],_,C=>C []
 | .sh d :: as,ρ,C=>FinL as ρ.tail fun l=>C (.sh d :: l)
 | .own a _ :: as,ρ,C=>∃ d,ρ.head? = some (.own a d) /\ FinL as ρ.tail fun l=>C (.ow d :: l)
 | .drw a :: as,ρ,C=>ρ.head? = some (.drw a) /\ FinL as ρ.tail fun l=>C (.dr :: l)
 | _ :: _,_,_=>False
theorem finL_ok {F G G' H H' : Hp} (e : Ex G G') : ∀ {vs : List V} {ags : Env} {σ : L2.St} {ρ : Env} {C : List Ag -> Prop},Slots K F G H (vs.map some) ags -> Slots K F G' H' σ ρ -> FinL ags ρ C -> ∃ ags',Slots K F G' H' (vs.map some) ags' /\ SameA ags ags' /\ C (ags'.map Sl.er)
 | [],[],_,_,_,_,_,h=>⟨[],trivial,trivial,h⟩
 | [],_ :: _,_,_,_,h,_,_=>h.elim
 | _ :: _,[],_,_,_,h,_,_=>h.elim
 | v :: vs,.sh d :: as,σ,ρ,C,h1,h2,h=>by
  obtain ⟨⟨v',ev,hv⟩,h1⟩ := h1
  have ht : Slots K F G' H' σ.tail ρ.tail := by
   cases σ with
   | nil=>cases ρ with
    | nil=>trivial
    | cons _ _=>exact h2.elim
   | cons _ _=>cases ρ with
    | nil=>exact h2.elim
    | cons _ _=>exact h2.2
  obtain ⟨ags',g1,g2,g3⟩ := finL_ok e (vs := vs) (ags := as) h1 ht h
  exact ⟨.sh d :: ags',⟨⟨v',ev,hv.mono e⟩,g1⟩,⟨rfl,g2⟩,g3⟩
 | v :: vs,.own a d0 :: as,σ,ρ,C,h1,h2,h=>by
  obtain ⟨⟨ev,_⟩,h1⟩ := h1
  obtain ⟨d,hd,h⟩ := h
  cases ρ with
  | nil=>cases hd
  | cons r ρ =>
   cases σ with
   | nil=>exact h2.elim
   | cons s σ =>
    cases hd
    obtain ⟨ags',g1,g2,g3⟩ := finL_ok e (vs := vs) (ags := as) h1 h2.2 h
    obtain ⟨_,k1,k2,k3⟩ := h2.1
    exact ⟨.own a d :: ags',⟨⟨ev,k1,k2,k3⟩,g1⟩,⟨⟨d,rfl⟩,g2⟩,g3⟩
 | v :: vs,.drw a :: as,σ,ρ,C,h1,h2,h=>by
  obtain ⟨⟨ev,_⟩,h1⟩ := h1
  obtain ⟨hd,h⟩ := h
  cases ρ with
  | nil=>cases hd
  | cons r ρ =>
   cases σ with
   | nil=>exact h2.elim
   | cons s σ =>
    cases hd
    obtain ⟨ags',g1,g2,g3⟩ := finL_ok e (vs := vs) (ags := as) h1 h2.2 h
    obtain ⟨_,k1,k2,k3⟩ := h2.1
    exact ⟨.drw a :: ags',⟨⟨ev,k1,k2,k3⟩,g1⟩,⟨rfl,g2⟩,g3⟩
 | v :: vs,.un :: as,_,_,_,_,_,h=>h.elim
 | v :: vs,.two _ _ _ _ :: as,_,_,_,_,_,h=>h.elim
 | v :: vs,.any _ _ :: as,_,_,_,_,_,h=>h.elim
theorem slots_app {F G H : Hp} : ∀ {σ : L2.St} {ρ : Env} (n : Nat),Slots K F G H σ ρ -> Slots K F G H (σ ++ List.replicate n none) (ρ ++ List.replicate n Sl.un)
 | [],[],n,_=>slots_un n
 | [],_ :: _,_,h=>h.elim
 | _ :: _,[],_,h=>h.elim
 | _ :: _,_ :: _,n,h=>⟨h.1,slots_app n h.2⟩
theorem ownA_app (ρ : Env) (n : Nat) : ownA (ρ ++ List.replicate n Sl.un) = ownA ρ := by
 unfold ownA
 rw [List.flatMap_append]
 have : (List.replicate n Sl.un).flatMap Sl.adr = [] := ownA_un n
 rw [this,List.append_nil]
def BodyU (K : PySem.W.Frag) (N : List Str) (W : XK) (T : List Ag -> (RV -> List Ag -> Prop) -> (Str -> Str -> D -> Prop) -> Prop) (t : TS) : Prop := ∀ ags Qd X,(∀ s ∈ ags,s.isArg = true) -> T (ags.map Sl.er) Qd X ->
 WS K t (ags ++ List.replicate (N.length - ags.length) .un) { nx := fun ρ=>FinL ags ρ (Qd (.sh .non)),rt := fun d ρ=>FinL ags ρ (Qd (.sh d)),ro := fun d ρ=>FinL ags ρ (Qd (.nw d)),W := W,xx := X }
theorem body_run {N : List Str} {W : XK} {T : List Ag -> (RV -> List Ag -> Prop) -> (Str -> Str -> D -> Prop) -> Prop} {t : TS} {vs : List V} {H : Hp} {Q : VK} (hw : BodyU K N W T t) (h : spU K T vs H Q W) : t { nx := fun _ H'=>Q .non H',rt := Q } (L2.start N vs) H := by
 obtain ⟨F,G,ags,Qd,X,R,ha,tt,post,lk⟩ := h
 have hl : vs.length = ags.length := by have := R.sl.length; rw [List.length_map] at this; exact this
 have R1 : RE K F G H (L2.start N vs) (ags ++ List.replicate (N.length - ags.length) .un) := by
  unfold L2.start
  rw [hl]
  exact ⟨R.wd,slots_app _ R.sl,by rw [ownA_app]; exact R.nd⟩
 have fin : ∀ {C : List Ag -> Prop} {σ' : L2.St} {ρ' : Env} {G' H' : Hp},Ex G G' -> RE K F G' H' σ' ρ' -> FinL ags ρ' C -> ∃ ags',RE K F G' H' (vs.map some) ags' /\ SameA ags ags' /\ C (ags'.map Sl.er) := fun e R' f=>by
  obtain ⟨ags',g1,g2,g3⟩ := finL_ok e R.sl R'.sl f
  exact ⟨ags',⟨R'.wd,g1,by rw [g2.own]; exact R.nd⟩,g2,g3⟩
 refine hw ags Qd X ha tt F G H _ _ R1 ⟨fun σ' ρ' G' H' e R' q=>?_,fun v d σ' ρ' G' H' e R' hv q=>?_,fun σ' ρ' G' H' e R' q=>q.elim,fun σ' ρ' G' H' e R' q=>q.elim,fun p d σ' ρ' G' H' e R' hG hF hO o q=>?_,lk⟩
 ·obtain ⟨ags',g1,g2,g3⟩ := fin e R' q
  exact post .non (.sh .non) ags' G' H' e g1 g2 .non g3
 ·obtain ⟨ags',g1,g2,g3⟩ := fin e R' q
  exact post v (.sh d) ags' G' H' e g1 g2 hv g3
 ·have key : ∀ {ags : Env} {ρ' : Env} {C : List Ag -> Prop},FinL ags ρ' C -> ∀ a ∈ ownA ags,a ∈ ownA ρ' := by
   intro ags
   induction ags with
   | nil=>intro ρ' C _ a m; cases m
   | cons r as ih =>
    intro ρ' C f a m
    rw [ownA_cons] at m
    have tl : ∀ {ρ' : Env},a ∈ ownA ρ'.tail -> a ∈ ownA ρ' := fun {ρ'} z=>by
     cases ρ' with
     | nil=>exact z
     | cons s ρ'=>rw [ownA_cons]; exact List.mem_append_right _ z
    cases r with
    | sh d=>exact tl (ih f a m)
    | own b d =>
     obtain ⟨d',hd,f⟩ := f
     rcases List.mem_append.mp m with z | z
     ·cases ρ' with
      | nil=>cases hd
      | cons s ρ'=>cases hd; rw [ownA_cons]; exact List.mem_append_left _ z
     ·exact tl (ih f a z)
    | drw b =>
     obtain ⟨hd,f⟩ := f
     rcases List.mem_append.mp m with z | z
     ·cases ρ' with
      | nil=>cases hd
      | cons s ρ'=>cases hd; rw [ownA_cons]; exact List.mem_append_left _ z
     ·exact tl (ih f a z)
    | un=>exact f.elim
    | two _ _ _ _=>exact f.elim
    | any _ _=>exact f.elim
  have sub := key q
  obtain ⟨ags',g1,g2,g3⟩ := fin e R' q
  exact post (.ref p) (.nw d) ags' G' H' e g1 g2 ⟨p,rfl,hG,hF,fun m=>hO (sub p (by rw [g2.own] at m; exact m)),o⟩ g3
theorem fn_U {P : Program} {w : World} {mg : Str -> Option Value} {base : Heap} {x qual : Str} {params : Arguments} {body : List Stmt} {scope : Scope} {f : Addr} {fd : FuncData} {N ps : List Str} {k : Nat} {T : List Ag -> (RV -> List Ag -> Prop) -> (Str -> Str -> D -> Prop) -> Prop}
  (F : FunD K x qual params body scope [] [] f fd) (S : FnScope N ps scope) (hl : ∀ ds Qd X,T ds Qd X -> ds.length = ps.length)
  (hb : ∀ (cdv : Value) (A : Around) (outer : List PySem.Env) (s : Shared) (H : Hp) (W : XK),fd.code = cdv -> Room k (A.deeper (envOfC qual scope s.heap.objs.size f cdv)) ->
   Takes (cxOf (L2.CX P w) P w K mg base N qual scope f cdv A outer s H W) (fun cls d _ H=>W cls d H) -> PassesOwn (model P w) (A.deeper (envOfC qual scope s.heap.objs.size f cdv)) (envOfC qual scope s.heap.objs.size f cdv) (cxOf (L2.CX P w) P w K mg base N qual scope f cdv A outer s H W).xe ->
   ∃ t,PSs (cxOf (L2.CX P w) P w K mg base N qual scope f cdv A outer s H W) body t /\ BodyU K N W T t) :
  FnOk P w K mg base (L2.CX P w) (k + 1) f fd ps (spU K T) := by
 obtain ⟨oc,od,dV,kV,doc,pm,an,cdv,ct,osl,rfl,lk,hcd,_,_⟩ := F.ex
 refine fn_of lk hcd S (fun vs H Q E h=>?_) fun A outer s H vs Q W hr h=>?_
 ·obtain ⟨_,_,ags,Qd,X,R,_,tt,_⟩ := h
  have h1 := hl _ _ _ tt
  have h2 := R.sl.length
  rw [List.length_map] at h1 h2
  rw [h2]; exact h1
 ·obtain ⟨t,hd,hw⟩ := hb cdv A outer s H W rfl hr (takes_of rfl rfl rfl rfl) (passes_of rfl)
  exact ⟨t,hd,body_run hw h⟩
inductive Ar where
 | d (d : D) | s (i : Nat)
def ArsOk (K : PySem.W.Frag) (G : Hp) (σ : L2.St) : List V -> List Ar -> Prop
 | [],[]=>True
 | v :: vs,.d x :: as=>Rep K G v x /\ ArsOk K G σ vs as
 | v :: vs,.s i :: as=>σ[i]? = some (some v) /\ ArsOk K G σ vs as
 | _,_=>False
theorem ArsOk.mono {G G' : Hp} {σ : L2.St} (e : Ex G G') : ∀ {vs : List V} {as : List Ar},ArsOk K G σ vs as -> ArsOk K G' σ vs as
 | [],[],_=>trivial
 | v :: vs,.d x :: as,h=>⟨h.1.mono e,ArsOk.mono e h.2⟩
 | v :: vs,.s i :: as,h=>⟨h.1,ArsOk.mono e h.2⟩
 | [],_ :: _,h=>h.elim
 | _ :: _,[],h=>h.elim
def EvG (K : PySem.W.Frag) (ts : TA) (ρ : Env) (Q : List Ar -> Env -> Prop) : Prop := ∀ F G H σ,RE K F G H σ ρ -> ∀ Q' : List V -> Hp -> Prop,
 (∀ vs as ρ' G' H',Ex G G' -> RE K F G' H' σ ρ' -> ArsOk K G' σ vs as -> Q as ρ' -> Q' vs H') -> ts σ H Q'
theorem eg_ow {Q : List Ar -> Env -> Prop} {i : Nat} {r : Sl} (hi : ρ[i]? = some r) (ho : r.isOwn = true) (h : EvG K ts ρ fun as ρ2=>Q (.s i :: as) ρ2) (hn : isAny r = false := by rfl) : EvG K (tCons (tVar i) ts) ρ Q := fun F G H σ R Q' k=>by
 obtain ⟨s,hs,q⟩ := R.sl.get hi
 have hv : ∃ v,s = some v := by
  cases r with
  | own a d=>exact ⟨_,q.1⟩
  | drw a=>exact ⟨_,q.1⟩
  | two a b c d=>obtain ⟨⟨t,z,_⟩,_⟩ := q; exact ⟨_,z⟩
  | un=>cases ho
  | sh d=>cases ho
  | any _ _=>cases hn
 obtain ⟨v,rfl⟩ := hv
 exact ⟨v,hs,h F G H σ R _ fun vs as ρ2 G2 H2 e2 R2 hvs q2=>k (v :: vs) (.s i :: as) ρ2 G2 H2 e2 R2 ⟨hs,hvs⟩ q2⟩
def lent (ρ : Env) : List Ar -> Option Env
 | []=>some []
 | .d x :: as=>(lent ρ as).map (Sl.sh x :: ·)
 | .s i :: as=>match ρ[i]? with
  | some (.own a d)=>(lent ρ as).map (Sl.own a d :: ·)
  | some (.drw a)=>(lent ρ as).map (Sl.drw a :: ·)
  | _=>none
def idx : List Ar -> List Nat
 | []=>[]
 | .d _ :: as=>idx as
 | .s i :: as=>i :: idx as
def upS : Sl -> Ag -> Sl
 | .own a _,.ow d=>.own a d
 | s,_=>s
def putB (ρ : Env) : List Ar -> List Ag -> Env
 | .d _ :: as,_ :: gs=>putB ρ as gs
 | .s i :: as,g :: gs=>putB (match ρ[i]? with | some r=>ρ.set i (upS r g) | none=>ρ) as gs
 | _,_=>ρ
theorem upS_adr (r : Sl) (g : Ag) : (upS r g).adr = r.adr := by
 cases r <;> cases g <;> rfl
theorem ownA_setE {r r' : Sl} (ha : r'.adr = r.adr) : ∀ {ρ : Env} {i : Nat},ρ[i]? = some r -> ownA (ρ.set i r') = ownA ρ
 | [],_,e=>by simp at e
 | r0 :: ρ,0,e=>by
  simp at e; subst e
  show ownA (r' :: ρ) = _
  rw [ownA_cons,ownA_cons,ha]
 | r0 :: ρ,i + 1,e=>by
  show ownA (r0 :: ρ.set i r') = _
  rw [ownA_cons,ownA_cons,ownA_setE ha (by simpa using e)]
theorem putB_own : ∀ (as : List Ar) (gs : List Ag) (ρ : Env),ownA (putB ρ as gs) = ownA ρ
 | [],_,_=>rfl
 | .d _ :: as,[],_=>rfl
 | .s _ :: as,[],_=>rfl
 | .d _ :: as,_ :: gs,ρ=>putB_own as gs ρ
 | .s i :: as,g :: gs,ρ=>by
  unfold putB
  rw [putB_own as gs]
  cases h : ρ[i]? with
  | none=>rfl
  | some r=>exact ownA_setE (upS_adr r g) h
theorem putB_len : ∀ (as : List Ar) (gs : List Ag) (ρ : Env),(putB ρ as gs).length = ρ.length
 | [],_,_=>rfl
 | .d _ :: as,[],_=>rfl
 | .s _ :: as,[],_=>rfl
 | .d _ :: as,_ :: gs,ρ=>putB_len as gs ρ
 | .s i :: as,g :: gs,ρ=>by
  unfold putB
  rw [putB_len as gs]
  cases ρ[i]? with
  | none=>rfl
  | some r=>exact List.length_set
theorem putB_out : ∀ (as : List Ar) (gs : List Ag) (ρ : Env) {j : Nat},j ∉ idx as -> (putB ρ as gs)[j]? = ρ[j]?
 | [],_,_,_,_=>rfl
 | .d _ :: as,[],_,_,_=>rfl
 | .s _ :: as,[],_,_,_=>rfl
 | .d _ :: as,_ :: gs,ρ,j,h=>putB_out as gs ρ h
 | .s i :: as,g :: gs,ρ,j,h=>by
  unfold putB
  rw [putB_out as gs _ (fun z=>h (List.mem_cons_of_mem _ z))]
  have ne : i ≠ j := fun z=>h (by rw [z]; exact List.mem_cons_self)
  cases ρ[i]? with
  | none=>rfl
  | some r=>exact List.getElem?_set_ne ne
theorem slots_ix {F G H : Hp} : ∀ {σ : L2.St} {ρ : Env},σ.length = ρ.length -> (∀ (j : Nat) s r,σ[j]? = some s -> ρ[j]? = some r -> SlotOk K F G H s r) -> Slots K F G H σ ρ
 | [],[],_,_=>trivial
 | [],_ :: _,h,_=>by simp at h
 | _ :: _,[],h,_=>by simp at h
 | s :: σ,r :: ρ,h,k=>⟨k 0 s r rfl rfl,slots_ix (by simpa using h) fun j s' r' h1 h2=>k (j + 1) s' r' (by simpa using h1) (by simpa using h2)⟩
theorem lent_arg : ∀ {as : List Ar} {ags : Env},lent ρ as = some ags -> ∀ s ∈ ags,s.isArg = true
 | [],ags,h,s,m=>by cases h; cases m
 | .d x :: as,ags,h,s,m=>by
  obtain ⟨bs,h1,rfl⟩ := Option.map_eq_some_iff.mp (show (lent ρ as).map (Sl.sh x :: ·) = some ags from h)
  rcases List.mem_cons.mp m with z | z
  ·rw [z]; rfl
  ·exact lent_arg h1 s z
 | .s i :: as,ags,h,s,m=>by
  unfold lent at h
  split at h
  ·obtain ⟨bs,h1,rfl⟩ := Option.map_eq_some_iff.mp h
   rcases List.mem_cons.mp m with z | z
   ·rw [z]; rfl
   ·exact lent_arg h1 s z
  ·obtain ⟨bs,h1,rfl⟩ := Option.map_eq_some_iff.mp h
   rcases List.mem_cons.mp m with z | z
   ·rw [z]; rfl
   ·exact lent_arg h1 s z
  ·cases h
theorem lent_own : ∀ {as : List Ar} {ags : Env},lent ρ as = some ags -> ∀ a ∈ ownA ags,∃ (i : Nat) (r : Sl),i ∈ idx as /\ ρ[i]? = some r /\ a ∈ r.adr
 | [],ags,h,a,m=>by cases h; cases m
 | .d x :: as,ags,h,a,m=>by
  obtain ⟨bs,h1,rfl⟩ := Option.map_eq_some_iff.mp (show (lent ρ as).map (Sl.sh x :: ·) = some ags from h)
  exact lent_own h1 a m
 | .s i :: as,ags,h,a,m=>by
  unfold lent at h
  split at h
  ·rename_i b d hb
   obtain ⟨bs,h1,rfl⟩ := Option.map_eq_some_iff.mp h
   rw [ownA_cons] at m
   rcases List.mem_append.mp m with z | z
   ·exact ⟨i,_,List.mem_cons_self,hb,z⟩
   ·obtain ⟨j,r,q1,q2,q3⟩ := lent_own h1 a z
    exact ⟨j,r,List.mem_cons_of_mem _ q1,q2,q3⟩
  ·rename_i b hb
   obtain ⟨bs,h1,rfl⟩ := Option.map_eq_some_iff.mp h
   rw [ownA_cons] at m
   rcases List.mem_append.mp m with z | z
   ·exact ⟨i,_,List.mem_cons_self,hb,z⟩
   ·obtain ⟨j,r,q1,q2,q3⟩ := lent_own h1 a z
    exact ⟨j,r,List.mem_cons_of_mem _ q1,q2,q3⟩
  ·cases h
theorem lent_nd (nd : (ownA ρ).Nodup) : ∀ {as : List Ar} {ags : Env},lent ρ as = some ags -> (idx as).Nodup -> (ownA ags).Nodup
 | [],ags,h,_=>by cases h; exact List.nodup_nil
 | .d x :: as,ags,h,n=>by
  obtain ⟨bs,h1,rfl⟩ := Option.map_eq_some_iff.mp (show (lent ρ as).map (Sl.sh x :: ·) = some ags from h)
  have := lent_nd nd h1 n
  rw [ownA_cons]
  exact this
 | .s i :: as,ags,h,n=>by
  have n1 := (List.nodup_cons.mp n).1
  have n2 := (List.nodup_cons.mp n).2
  unfold lent at h
  split at h
  ·rename_i b d hb
   obtain ⟨bs,h1,rfl⟩ := Option.map_eq_some_iff.mp h
   rw [ownA_cons]
   refine List.nodup_append.mpr ⟨List.nodup_cons.mpr ⟨List.not_mem_nil,List.nodup_nil⟩,lent_nd nd h1 n2,fun a ma c mc z=>?_⟩
   subst z
   obtain ⟨j,r,q1,q2,q3⟩ := lent_own h1 _ mc
   exact nodup_apart nd hb q2 (fun z=>n1 (z ▸ q1)) ma q3
  ·rename_i b hb
   obtain ⟨bs,h1,rfl⟩ := Option.map_eq_some_iff.mp h
   rw [ownA_cons]
   refine List.nodup_append.mpr ⟨List.nodup_cons.mpr ⟨List.not_mem_nil,List.nodup_nil⟩,lent_nd nd h1 n2,fun a ma c mc z=>?_⟩
   subst z
   obtain ⟨j,r,q1,q2,q3⟩ := lent_own h1 _ mc
   exact nodup_apart nd hb q2 (fun z=>n1 (z ▸ q1)) ma q3
  ·cases h
theorem lent_slots {F F' G H : Hp} {σ : L2.St} (R : Slots K F G H σ ρ) : ∀ {vs : List V} {as : List Ar} {ags : Env},ArsOk K G σ vs as -> lent ρ as = some ags -> (∀ a ∈ ownA ags,F' a = none) -> Slots K F' G H (vs.map some) ags
 | [],[],ags,_,h,_=>by cases h; trivial
 | [],_ :: _,_,h,_,_=>h.elim
 | _ :: _,[],_,h,_,_=>h.elim
 | v :: vs,.d x :: as,ags,h,hl,hF=>by
  obtain ⟨bs,h1,rfl⟩ := Option.map_eq_some_iff.mp (show (lent ρ as).map (Sl.sh x :: ·) = some ags from hl)
  exact ⟨⟨v,rfl,h.1⟩,lent_slots R h.2 h1 hF⟩
 | v :: vs,.s i :: as,ags,h,hl,hF=>by
  unfold lent at hl
  split at hl
  ·rename_i b d hb
   obtain ⟨bs,h1,rfl⟩ := Option.map_eq_some_iff.mp hl
   obtain ⟨s,hs,q⟩ := R.get hb
   rw [h.1] at hs; cases hs
   exact ⟨SlotOk.frm (r := .own b d) q fun a m=>hF a (by rw [ownA_cons]; exact List.mem_append_left _ m),lent_slots R h.2 h1 fun a m=>hF a (by rw [ownA_cons]; exact List.mem_append_right _ m)⟩
  ·rename_i b hb
   obtain ⟨bs,h1,rfl⟩ := Option.map_eq_some_iff.mp hl
   obtain ⟨s,hs,q⟩ := R.get hb
   rw [h.1] at hs; cases hs
   exact ⟨SlotOk.frm (r := .drw b) q fun a m=>hF a (by rw [ownA_cons]; exact List.mem_append_left _ m),lent_slots R h.2 h1 fun a m=>hF a (by rw [ownA_cons]; exact List.mem_append_right _ m)⟩
  ·cases hl
theorem put_slot {F' G' H' : Hp} {σ : L2.St} : ∀ {vs : List V} {as : List Ar} {ags ags' : Env} {ρ τ : Env},lent ρ as = some ags -> (idx as).Nodup -> (∀ i ∈ idx as,τ[i]? = ρ[i]?) -> (∀ (j : Nat) v,(∃ (k : Nat),as[k]? = some (.s j) /\ vs[k]? = some v) -> σ[j]? = some (some v)) ->
  Slots K F' G' H' (vs.map some) ags' -> SameA ags ags' -> ∀ (j : Nat) s r,j ∈ idx as -> σ[j]? = some s -> (putB τ as (ags'.map Sl.er))[j]? = some r -> SlotOk K F' G' H' s r
 | _,[],_,_,_,_,_,_,_,_,_,_,j,s,r,m,_,_=>by cases m
 | [],.d x :: as,[],_,ρ,_,h,_,_,_,_,_,_,_,_,_,_,_=>by
  obtain ⟨_,_,z⟩ := Option.map_eq_some_iff.mp (show (lent ρ as).map (Sl.sh x :: ·) = some [] from h); cases z
 | [],.s i :: as,[],_,ρ,_,h,_,_,_,_,_,_,_,_,_,_,_=>by
  unfold lent at h
  split at h
  ·obtain ⟨_,_,z⟩ := Option.map_eq_some_iff.mp h; cases z
  ·obtain ⟨_,_,z⟩ := Option.map_eq_some_iff.mp h; cases z
  ·cases h
 | [],_ :: _,_ :: _,[],_,_,_,_,_,_,_,sa,_,_,_,_,_,_=>sa.elim
 | [],_ :: _,_ :: _,_ :: _,_,_,_,_,_,_,sl,_,_,_,_,_,_,_=>sl.elim
 | v :: vs,.d x :: as,ags,ags',ρ,τ,h,n,ht,hv,sl,sa,j,s,r,m,hs,hp=>by
  obtain ⟨bs,h1,rfl⟩ := Option.map_eq_some_iff.mp (show (lent ρ as).map (Sl.sh x :: ·) = some ags from h)
  cases ags' with
  | nil=>exact sa.elim
  | cons g gs=>exact put_slot (vs := vs) h1 n ht (fun j v ⟨k,k1,k2⟩=>hv j v ⟨k + 1,by simpa using k1,by simpa using k2⟩) sl.2 sa.2 j s r m hs hp
 | v :: vs,.s i :: as,ags,ags',ρ,τ,h,n,ht,hv,sl,sa,j,s,r,m,hs,hp=>by
  have n1 := (List.nodup_cons.mp n).1
  have n2 := (List.nodup_cons.mp n).2
  have hti := ht i List.mem_cons_self
  cases ags' with
  | nil=>cases ags with
   | nil =>
    unfold lent at h
    split at h
    ·obtain ⟨_,_,z⟩ := Option.map_eq_some_iff.mp h; cases z
    ·obtain ⟨_,_,z⟩ := Option.map_eq_some_iff.mp h; cases z
    ·cases h
   | cons _ _=>exact sa.elim
  | cons g gs =>
   have key : ∃ r0 bs,ρ[i]? = some r0 /\ ags = r0 :: bs /\ lent ρ as = some bs /\ upS r0 g.er = g := by
    unfold lent at h
    split at h
    ·rename_i b d hb
     obtain ⟨bs,h1,rfl⟩ := Option.map_eq_some_iff.mp h
     obtain ⟨d',rfl⟩ := sa.1
     exact ⟨_,bs,hb,rfl,h1,rfl⟩
    ·rename_i b hb
     obtain ⟨bs,h1,rfl⟩ := Option.map_eq_some_iff.mp h
     have e : g = .drw b := sa.1
     subst e
     exact ⟨_,bs,hb,rfl,h1,rfl⟩
    ·cases h
   obtain ⟨r0,bs,hr0,rfl,h1,hu⟩ := key
   have ep : putB τ (.s i :: as) ((g :: gs).map Sl.er) = putB (τ.set i g) as (gs.map Sl.er) := by
    rw [List.map_cons]
    show putB (match τ[i]? with | some r=>τ.set i (upS r g.er) | none=>τ) as (gs.map Sl.er) = _
    rw [hti,hr0]
    show putB (τ.set i (upS r0 g.er)) as _ = _
    rw [hu]
   rw [ep] at hp
   by_cases ej : j = i
   ·subst ej
    rw [putB_out as _ _ n1] at hp
    have hlt : j < τ.length := (List.getElem?_eq_some_iff.mp (hti.trans hr0)).1
    rw [List.getElem?_set_self hlt] at hp
    cases hp
    have := hv j v ⟨0,rfl,rfl⟩
    rw [hs] at this
    cases this
    exact sl.1
   ·have mj : j ∈ idx as := by
     rcases List.mem_cons.mp m with z | z
     ·exact absurd z ej
     ·exact z
    refine put_slot (vs := vs) h1 n2 (fun i' hi'=>?_) (fun j v ⟨k,k1,k2⟩=>hv j v ⟨k + 1,by simpa using k1,by simpa using k2⟩) sl.2 sa.2 j s r mj hs hp
    have ne : i ≠ i' := fun z=>n1 (z ▸ hi')
    rw [List.getElem?_set_ne ne]
    exact ht i' (List.mem_cons_of_mem _ hi')
theorem arsOk_at {G : Hp} {σ : L2.St} : ∀ {vs : List V} {as : List Ar},ArsOk K G σ vs as -> ∀ (k j : Nat) v,as[k]? = some (.s j) -> vs[k]? = some v -> σ[j]? = some (some v)
 | [],[],_,k,j,v,h,_=>by simp at h
 | v :: vs,.d x :: as,h,0,j,u,h1,h2=>by simp at h1
 | v :: vs,.s i :: as,h,0,j,u,h1,h2=>by
  simp at h1 h2
  subst h1; subst h2
  exact h.1
 | v :: vs,.d x :: as,h,k + 1,j,u,h1,h2=>arsOk_at h.2 k j u (by simpa using h1) (by simpa using h2)
 | v :: vs,.s i :: as,h,k + 1,j,u,h1,h2=>arsOk_at h.2 k j u (by simpa using h1) (by simpa using h2)
 | [],_ :: _,h,_,_,_,_,_=>h.elim
 | _ :: _,[],h,_,_,_,_,_=>h.elim
theorem call_core {F G1 H1 : Hp} {σ : L2.St} {ρ1 : Env} {vs : List V} {as : List Ar} {ags : Env} {T : List Ag -> (RV -> List Ag -> Prop) -> (Str -> Str -> D -> Prop) -> Prop} {W : XK} {X : Str -> Str -> D -> Prop} {Q : RV -> Env -> Prop} {Q' : VK} {Qd : RV -> List Ag -> Prop}
  (R1 : RE K F G1 H1 σ ρ1) (hv : ArsOk K G1 σ vs as) (hl : lent ρ1 as = some ags) (hn : (idx as).Nodup) (ht : T (ags.map Sl.er) Qd X) (hq : ∀ r gs,Qd r gs -> Q r (putB ρ1 as gs))
  (k : ∀ v r ρ' G' H',Ex G1 G' -> RE K F G' H' σ ρ' -> RvOk K F G' H' ρ' v r -> Q r ρ' -> Q' v H') (lk : XLink K F G1 W X) : spU K T vs H1 Q' W := by
 let as' := (ownA ρ1).filter fun b=>decide (b ∉ ownA ags)
 have sub : ∀ b ∈ as',b ∈ ownA ρ1 := fun b m=>(List.mem_filter.mp m).1
 have out : ∀ {b},b ∈ as' -> b ∉ ownA ags := fun m=>of_decide_eq_true (List.mem_filter.mp m).2
 have own1 : ∀ a ∈ ownA ags,a ∈ ownA ρ1 := fun a m=>by
  obtain ⟨i,r,_,q2,q3⟩ := lent_own hl a m
  exact adr_mem q2 q3
 have hF' : ∀ a ∈ ownA ags,addF F H1 as' a = none := fun a m=>by
  rw [addF_out fun z=>out z m]
  exact (R1.sl.own (own1 a m)).2.1
 refine ⟨addF F H1 as',G1,ags,Qd,X,⟨R1.wdF sub,lent_slots R1.sl hv hl hF',lent_nd R1.nd hl hn⟩,lent_arg hl,ht,fun v r ags' G' H' e R' sa hr q=>?_,fun C f v d dx G' H' e Wd' h1 h2 h3 h4 h5=>?_⟩
 ·have hF : Wd F G' H' := R1.wdB sub R'.wd
  refine k v r _ G' H' e ⟨hF,slots_ix ?_ (fun j s r2 hs hr2=>?_),by rw [putB_own]; exact R1.nd⟩ ?_ (hq r _ q)
  ·rw [putB_len]; exact R1.sl.length
  ·by_cases mj : j ∈ idx as
   ·refine SlotOk.frm (put_slot (vs := vs) hl hn (fun _ _=>rfl) (fun j v ⟨kk,k1,k2⟩=>arsOk_at hv kk j v k1 k2) R'.sl sa j s r2 mj hs hr2) fun a m=>?_
    have ha : a ∈ ownA (putB ρ1 as (ags'.map Sl.er)) := adr_mem hr2 m
    rw [putB_own] at ha
    exact (R1.sl.own ha).2.1
   ·rw [putB_out as _ _ mj] at hr2
    obtain ⟨s',hs',q⟩ := R1.sl.get hr2
    rw [hs] at hs'; cases hs'
    refine q.step e fun b m=>R1.keepF R'.wd (List.mem_filter.mpr ⟨adr_mem hr2 m,decide_eq_true fun z=>?_⟩) (adr_mem hr2 m)
    obtain ⟨i,r3,q1,q2,q3⟩ := lent_own hl b z
    exact nodup_apart R1.nd q2 hr2 (fun z=>mj (z ▸ q1)) q3 m
  ·cases r with
   | sh d=>exact hr
   | nw d =>
    obtain ⟨p,rfl,g1,g2,g3,g4⟩ := hr
    have np : p ∉ ownA ρ1 := fun m=>by
     by_cases z : p ∈ ownA ags
     ·exact g3 (by rw [sa.own]; exact z)
     ·obtain ⟨_,_,u,hu,_⟩ := R1.sl.own m
      rw [addF_in (List.mem_filter.mpr ⟨m,decide_eq_true z⟩),hu] at g2; cases g2
    refine ⟨p,rfl,g1,?_,by rw [putB_own]; exact np,g4⟩
    rw [addF_out fun z=>np (sub p z)] at g2
    exact g2
 ·refine lk C f v d dx G' H' e (R1.wdB sub Wd') h1 h2 ?_ h4 h5
  by_cases m : dx ∈ as'
  ·exact (R1.sl.own (sub dx m)).2.1
  ·rw [addF_out m] at h3; exact h3
def EvRX (K : PySem.W.Frag) (te : TE) (W : XK) (ρ : Env) (Q : RV -> Env -> Prop) (X : Str -> Str -> D -> Prop) : Prop := ∀ F G H σ,RE K F G H σ ρ -> XLink K F G W X -> ∀ Q' : VK,
 (∀ v r ρ' G' H',Ex G G' -> RE K F G' H' σ ρ' -> RvOk K F G' H' ρ' v r -> Q r ρ' -> Q' v H') -> te σ H Q'
theorem xr_callU {T : List Ag -> (RV -> List Ag -> Prop) -> (Str -> Str -> D -> Prop) -> Prop} {W : XK} {Q : RV -> Env -> Prop} {X : Str -> Str -> D -> Prop} (h : EvG K ts ρ fun as ρ1=>∃ ags,lent ρ1 as = some ags /\ (idx as).Nodup /\ T (ags.map Sl.er) (fun r gs=>Q r (putB ρ1 as gs)) X) : EvRX K (tCall (spU K T) [] W ts) W ρ Q X := fun F G H σ R L Q' k =>
 h F G H σ R _ fun vs as ρ1 G1 H1 e1 R1 hv q=>by
  obtain ⟨ags,hl,hn,ht⟩ := q
  rw [List.append_nil]
  exact call_core R1 hv hl hn ht (fun _ _ z=>z) (fun v r ρ' G' H' e=>k v r ρ' G' H' (e1.trans e)) (L.mono e1)
theorem ex_rv {W : XK} {Q : D -> Env -> Prop} {X : Str -> Str -> D -> Prop} (h : EvRX K te W ρ (fun r ρ'=>Q r.d ρ') X) : EvX K te W ρ Q X := fun F G H σ R L Q' k=>h F G H σ R L Q' fun v r ρ' G' H' e R' hr q=>by
 cases r with
 | sh d=>exact k v d ρ' G' H' e R' hr q
 | nw d =>
  obtain ⟨p,rfl,hG,hF,hO,o⟩ := hr
  obtain ⟨u,hu,hm⟩ := o.some
  exact k (.ref p) d ρ' (upd G' p u) H' (e.trans (Ex.new hG)) (R'.share hu hG hF hO (nt_mut hm).2) (ownR_rep o (by rw [upd_same,hu]) (Ex.new hG)) q
end
end DL
namespace DL
open PySem PySem.Spec PyProof.Rows L2 SrtK
variable [TabL]
structure FnM (P : Program) (w : World) (K : PySem.W.Frag) (mg : Str -> Option Value) (base : Heap) (k : Nat) (C m : Str) (ps : List Str) (sp : Sp) : Prop where
 ex : ∃ f fd,FnOk P w K mg base (L2.CX P w) k f fd ps sp /\ Binds K fd ps [] /\ Meth K (He.ga K C) m f
 cl : Cls K (He.ga K C)
theorem pe_methX {X : Cx} {k : Nat} {C m : Str} {ps : List Str} {sp : Sp} {o e : Expr} {es : List Expr} {ta : TE} {t : TA} {W : WX} {E : XK} {apos pos : Pos} {pl : Sem Bool} (F : FnM X.prog X.w X.K X.mg X.base k C m ps sp) (tk : Takes X W) (hW : ∀ cls d σ H,E cls d H -> W cls d σ H) (hr : Room k X.A) (he : PE X o ta) (ha : PA X (e :: es) t)
  (hst : starEach (e :: es) X.env = (false,eval e X.env) :: starEach es X.env := by rfl) (hpl : (backTo pos (starEach es X.env)).any (·.1) = false := by rfl)
  (ht : eval (.Call (.Attribute o m apos) (e :: es) [] pos) X.env = (do
   let ov <- eval o X.env
   standAt apos.atName
   let (f,first) <- holding [ov] (getMethod ov m pl)
   callWith pos f first (backTo pos (starEach (e :: es) X.env)) (backToKw pos (keywordEach [] X.env))) := by rfl) : PE X (.Call (.Attribute o m apos) (e :: es) [] pos) (tMeth (He.ga X.K C) m sp [] E ta t) := by
 obtain ⟨f,fd,h1,h2,h3⟩ := F.ex
 exact pe_meth he F.cl h3 h1 hr h2 .nil (passes_call tk hW) ha hst hpl ht
theorem pe_methX0 {X : Cx} {k : Nat} {C m : Str} {ps : List Str} {sp : Sp} {o : Expr} {ta : TE} {W : WX} {E : XK} {apos pos : Pos} {pl : Sem Bool} (F : FnM X.prog X.w X.K X.mg X.base k C m ps sp) (tk : Takes X W) (hW : ∀ cls d σ H,E cls d H -> W cls d σ H) (hr : Room k X.A) (he : PE X o ta)
  (ht : eval (.Call (.Attribute o m apos) [] [] pos) X.env = (do
   let ov <- eval o X.env
   standAt apos.atName
   let (f,first) <- holding [ov] (getMethod ov m pl)
   callWith pos f first (backTo pos (starEach [] X.env)) (backToKw pos (keywordEach [] X.env))) := by rfl) : PE X (.Call (.Attribute o m apos) [] [] pos) (tMeth (He.ga X.K C) m sp [] E ta tNil) := by
 obtain ⟨f,fd,h1,h2,h3⟩ := F.ex
 exact pe_meth0 he F.cl h3 h1 hr h2 .nil (passes_call tk hW) ht
section
variable {K : PySem.W.Frag} {te ta tb tc td ty tv tx tk : TE} {tt tu : TT} {ts : TA} {t u : TS} {ρ : Env} {E : EndD} {T : List Ag -> (RV -> List Ag -> Prop) -> (Str -> Str -> D -> Prop) -> Prop} {W : XK}
theorem look_none {fs : List (Str × V)} {ps : List (Str × D)} (m : Str) (e : fs.map (·.1) = ps.map (·.1)) (h : ps.lookup m = none) : fs.lookup m = none := by
 induction fs generalizing ps with
 | nil=>rfl
 | cons f fs ih =>
  cases ps with
  | nil=>cases e
  | cons p ps =>
   obtain ⟨f1,f2⟩ := f
   obtain ⟨p1,p2⟩ := p
   simp only [List.map_cons,List.cons.injEq] at e
   obtain ⟨e1,e2⟩ := e
   subst e1
   rw [List.lookup_cons] at h ⊢
   cases z : (m == f1) with
   | true=>rw [z] at h; cases h
   | false=>rw [z] at h; exact ih e2 h
theorem xr_meth {C m : Str} {Q : RV -> Env -> Prop} {X : Str -> Str -> D -> Prop} (h : EvW K ta ρ fun d ρ1=>∃ ps,d = .ins C ps /\ ps.lookup m = none /\ EvG K ts ρ1 fun as ρ2=>∃ ags,lent ρ2 as = some ags /\ (idx as).Nodup /\ T (.sh (.ins C ps) :: ags.map Sl.er) (fun r gs=>Q r (putB ρ2 as gs.tail)) X) :
  EvRX K (tMeth (He.ga K C) m (spU K T) [] W ta ts) W ρ Q X := fun F G H σ R L Q' k =>
 h F G H σ R _ fun v d ρ1 G1 H1 e1 R1 hv q=>by
  obtain ⟨ps,rfl,hm,q⟩ := q
  obtain ⟨a,dx,fs,rfl,g1,g2,g3⟩ := rep_ins hv
  refine ⟨a,dx,fs,rfl,R1.wd.g _ _ g1,look_none m g2 hm,q F G1 H1 σ R1 _ fun vs as ρ2 G2 H2 e2 R2 hvs q=>?_⟩
  obtain ⟨ags,hl,hn,ht⟩ := q
  rw [List.append_nil]
  refine call_core (as := .d (.ins C ps) :: as) (ags := .sh (.ins C ps) :: ags) R2 ⟨hv.mono e2,hvs⟩ (by show (lent ρ2 as).map _ = _; rw [hl]; rfl) hn ht (fun r gs z=>?_) (fun v r ρ' G' H' e=>k v r ρ' G' H' ((e1.trans e2).trans e)) (L.mono (e1.trans e2))
  cases gs with
  | nil=>exact (show putB ρ2 as [] = putB ρ2 (.d (.ins C ps) :: as) [] by cases as with | nil=>rfl | cons a _=>cases a <;> rfl) ▸ z
  | cons g gs=>exact z
theorem er_of {Q : RV -> Env -> Prop} (h : EvRX K te W ρ Q fun _ _ _=>False) : EvR K te ρ Q := fun F G H σ R Q' k=>h F G H σ R (fun _ _ _ _ _ _ _ _ _ _ _ _ _ z=>z.elim) Q' k
end
end DL
namespace DL
open PySem PySem.Spec PyProof.Rows L2 SrtK
variable [TabL]
section
variable {K : PySem.W.Frag} {te ta tb tc td ty tv tx tk : TE} {tt tu : TT} {ts : TA} {t u z : TS} {ρ : Env} {E : EndD} {Q : D -> Env -> Prop}
theorem opa_any {bs : List Bool} (q : Q (.bl (bs.any id)) ρ) : OpA K (rAny K) [.lst (bs.map D.bl)] ρ Q := fun F G H σ R vs hv Q' k=>by
 obtain ⟨v,rfl,h⟩ := hv.one
 obtain ⟨a,ws,rfl,h1,h2⟩ := rep_lst h
 rw [reps_bls h2] at h1
 exact ⟨a,bs,rfl,.inl (.inl (R.wd.g _ _ h1)),k _ _ ρ G H (Ex.refl G) R (.bl _) q⟩
end
end DL
namespace DL
open PySem PySem.Spec PyProof.Rows L2 SrtK
variable [TabL]
def objφ (K : PySem.W.Frag) (a : Addr) (C : Str) (fs : List (Str × Addr × D)) : Option V -> Hp -> Hp -> Prop := fun s G H =>
 s = some (.ref a) /\ (∃ dx,H a = some (.ins (He.ga K C) dx (fs.map fun f=>(f.1,V.ref f.2.1)))) /\ ∀ f ∈ fs,OwnR K G (H f.2.1) f.2.2
def objS (a : Addr) (fs : List (Str × Addr × D)) : List Addr := a :: fs.map (·.2.1)
def obj (K : PySem.W.Frag) (a : Addr) (C : Str) (fs : List (Str × Addr × D)) : Sl := .any (objS a fs) (objφ K a C fs)
end DL
namespace DL
open PySem PySem.Spec PyProof.Rows L2 SrtK
variable [TabL]
section
variable {K : PySem.W.Frag} {te ta tb tc td ty tv tx tk : TE} {tt tu : TT} {ts : TA} {t u z : TS} {ρ : Env} {E : EndD} {Q : D -> Env -> Prop}
theorem adr_sub : ∀ {ρ : Env} {i : Nat} {r : Sl},ρ[i]? = some r -> r.adr.Sublist (ownA ρ)
 | [],_,_,e=>by simp at e
 | r0 :: ρ,0,r,e=>by
  simp at e; subst e
  rw [ownA_cons]
  exact List.sublist_append_left _ _
 | r0 :: ρ,i + 1,r,e=>by
  rw [ownA_cons]
  exact (adr_sub (by simpa using e)).trans (List.sublist_append_right _ _)
end
end DL
namespace DL
open PySem PySem.Spec PyProof.Rows L2 SrtK
variable [TabL]
section
variable {K : PySem.W.Frag} {P : Program} {w : World} {mg : Str -> Option Value} {base : Heap} {x qual : Str} {params : Arguments} {body : List Stmt} {scope : Scope} {fd : FuncData} {N ps : List Str} {k : Nat} {T : List Ag -> (RV -> List Ag -> Prop) -> (Str -> Str -> D -> Prop) -> Prop}
def HbU (P : Program) (w : World) (K : PySem.W.Frag) (mg : Str -> Option Value) (base : Heap) (qual : Str) (body : List Stmt) (scope : Scope) (f : Addr) (fd : FuncData) (N : List Str) (k : Nat) (T : List Ag -> (RV -> List Ag -> Prop) -> (Str -> Str -> D -> Prop) -> Prop) : Prop :=
 ∀ (cdv : Value) (A : Around) (outer : List PySem.Env) (s : Shared) (H : Hp) (W : XK),fd.code = cdv -> Room k (A.deeper (envOfC qual scope s.heap.objs.size f cdv)) ->
   Takes (cxOf (L2.CX P w) P w K mg base N qual scope f cdv A outer s H W) (fun cls d _ H=>W cls d H) -> PassesOwn (model P w) (A.deeper (envOfC qual scope s.heap.objs.size f cdv)) (envOfC qual scope s.heap.objs.size f cdv) (cxOf (L2.CX P w) P w K mg base N qual scope f cdv A outer s H W).xe ->
   ∃ t,PSs (cxOf (L2.CX P w) P w K mg base N qual scope f cdv A outer s H W) body t /\ BodyU K N W T t
theorem fn_UX (F : FunD K x qual params body scope [] [] (He.ga K x) fd) (at_ : mg x = some (.ref (He.ga K x)))
  (bi : ∀ (kV doc pm : Value) (an : Option Addr) (cdv ct : Value) (us : List Value),us.length = ps.length -> bindArgs (PySem.W.fnOf x qual params body scope .none kV doc pm an cdv ct) ⟨us,[]⟩ = pure (ps.zip us))
  (S : FnScope N ps scope) (hl : ∀ ds Qd X,T ds Qd X -> ds.length = ps.length) (hb : HbU P w K mg base qual body scope (He.ga K x) fd N k T) : FnX P w K mg base (k + 1) x ps (spU K T) :=
 ⟨⟨fd,fn_U F S hl hb,F.bindsN bi⟩,F.kp,at_⟩
theorem fn_UM {C : Str} {f : Addr} (F : FunD K x qual params body scope [] [] f fd) (me : Meth K (He.ga K C) x f) (cl : Cls K (He.ga K C))
  (bi : ∀ (kV doc pm : Value) (an : Option Addr) (cdv ct : Value) (us : List Value),us.length = ps.length -> bindArgs (PySem.W.fnOf x qual params body scope .none kV doc pm an cdv ct) ⟨us,[]⟩ = pure (ps.zip us))
  (S : FnScope N ps scope) (hl : ∀ ds Qd X,T ds Qd X -> ds.length = ps.length) (hb : HbU P w K mg base qual body scope f fd N k T) : FnM P w K mg base (k + 1) C x ps (spU K T) :=
 ⟨⟨f,fd,fn_U F S hl hb,F.bindsN bi,me⟩,cl⟩
end
end DL
namespace DL
open PySem PySem.Spec PyProof.Rows L2 SrtK
variable [TabL]
section
variable {K : PySem.W.Frag} {te ta tb tc td ty tv tx tk : TE} {tt tu : TT} {ts : TA} {t u : TS} {ρ : Env} {E : EndD} {Q : D -> Env -> Prop} {T : List Ag -> (RV -> List Ag -> Prop) -> (Str -> Str -> D -> Prop) -> Prop} {W : XK}
theorem putB_sh : ∀ (xs : List D) (gs : List Ag),putB ρ (xs.map Ar.d) gs = ρ
 | [],_=>rfl
 | _ :: _,[]=>rfl
 | _ :: xs,_ :: gs=>putB_sh xs gs
end
end DL
namespace DL
open PySem PySem.Spec PyProof.Rows L2 SrtK
variable [TabL]
abbrev TO_ := List D -> (List (Str × D) -> Prop) -> (Str -> Str -> D -> Prop) -> Prop
end DL
namespace DL
open PySem PySem.Spec PyProof.Rows L2 SrtK
variable [TabL]
def kidsφ (p : Addr) (cs : List Addr) : Option V -> Hp -> Hp -> Prop := fun s _ H=>s = some (.ref p) /\ H p = some (.lst (cs.map V.ref)) /\ ∀ c ∈ cs,c ≠ p /\ ∃ v vs,H c = some (.lst (v :: vs))
def kids (S : List Addr) (p : Addr) (cs : List Addr) : Sl := .any S (kidsφ p cs)
end DL
namespace LowX
open PySem PySem.Spec PyProof.Rows L2
section
variable {X : Cx}
theorem MtM.or {id : String} {r r' : V -> List V -> Hp -> VK -> Prop} (h : MtM X id r) (h' : MtM X id r') : MtM X id (fun x xs H Q=>r x xs H Q \/ r' x xs H Q) := fun pins s σ H x xs v us Q I rx rv z=>by
 rcases z with z | z
 ·exact h pins s σ H x xs v us Q I rx rv z
 ·exact h' pins s σ H x xs v us Q I rx rv z
end
end LowX
namespace LowX
open PySem PySem.Spec PyProof.Rows L2
theorem put_tup {X : Cx} {pins : List (Addr × Obj)} {σ : L2.St} {H : Hp} {z : Shared} {E : Value -> Shared -> Prop} {D b : Addr} {kvs : List (List Key × V)} {k : List Key} {v : V} {r : Value} {Q : Unit -> Shared -> Prop} (hu : X.A.units + 1 < cLine) (I : Inv X pins σ H z) (hD : H D = some (.dT kvs)) (hb : H b = some (.tup (k.map kV)))
  (hz : kvs.length < sizeLine) (rv : RelV v r) (h : ∀ z',Inv X pins σ (upd H D (.dT (putK kvs k v))) z' -> Q () z') : wpAny (model X.prog X.w) X.A (dictSet D (.ref b) r) Q E z := by
 obtain ⟨c1,c2,xs,rel,dd⟩ := dt_of I.hok hD
 have n1 : xs.length <= sizeLine := by rw [<- Paired.length rel]; exact c1
 have n2 : (putK kvs k v).length <= sizeLine := by have := length_putK kvs k v; omega
 refine wpAny_dictSet_heap (hsz := n1) (show X.A.units < cLine by omega) (key_of I.hok hb) dd fun h' dd' sb=>h _ ?_
 obtain ⟨ob,es,ep,m1,m2,m3,m4,_,m5⟩ := dd'
 refine d_write I (by rw [hD]; exact True.intro) sb ⟨ob,m1⟩ ⟨n2,c2,_,(rel.put k hb rv).keeps fun c ys ec=>?_,ob,es,ep,m1,m2,m3,m4,m5⟩
 rw [upd_ne (ne_of ec hD (fun y=>nomatch y))]
 exact ec
section
variable {X : Cx}
def tDcT (wi : TI) (g : TG) (tt : TT) (tk tv : TE) (vs : List Nat) : TE := fun σ H Q=>wi σ H fun J H1=>∀ D,H1 D = none -> ∃ Wn : Nat -> Nat -> Hp -> Prop,(∃ m,Wn 0 m (upd H1 D (.dT []))) /\ ∀ i m H,Wn i m H ->
 (J.stop i H /\ Q (.ref D) H) \/ (J.go i H /\ ∃ Go : Hp -> Prop,(∀ H',Go H' -> ∃ m',m' < m /\ Wn (i + 1) m' H') /\ ∀ x H',J.yld i H x H' -> g x (wipe σ vs) H' fun σ2 H2=>wipe σ2 vs = wipe σ vs /\ tt σ2 H2 fun b H3 =>
  if b = true then tk σ2 H3 fun y H4=>tv σ2 H4 fun z H5=>∃ kvs k a,y = .ref a /\ H5 a = some (.tup (k.map kV)) /\ H5 D = some (.dT kvs) /\ kvs.length < sizeLine /\ Go (upd H5 D (.dT (putK kvs k z))) else Go H3)
theorem pe_dcT {kx vx tg iter : Expr} {ifs : List Expr} {scope : Scope} {own : List (Str × Nat)} {pos : Pos} {wi : TI} {g : TG} {tt : TT} {tk tv : TE} (hu : X.A.units + 64 < cLine) (hc : X.calm = true) (hN : X.N.Nodup) (hi : PI X tg iter wi) (ok : BlkOk X.N X.env.scope scope own)
  (hg : ∀ s H C cl fp,PG (X.blk s H scope (compEnvC scope cl C X.env) fp) tg g) (ht : ∀ s H C cl fp,PTs (X.blk s H scope (compEnvC scope cl C X.env) fp) ifs tt)
  (hk : ∀ s H C cl fp,PE (X.blk s H scope (compEnvC scope cl C X.env) fp) kx tk)
  (he : ∀ s H C cl fp,PE (X.blk s H scope (compEnvC scope cl C X.env) fp) vx tv) (hs : ∀ x,foldedSetIterable iter X.env x = pure x := by intro _; rfl) :
  PE X (.DictComp kx vx [⟨tg,iter,ifs,0⟩] scope pos) (tDcT wi g tt tk tv (own.map (·.2))) := by
 refine ⟨fun pins s σ H Q I h=>?_⟩
 rw [arm_eval_DictComp]
 have free : ∀ y ∈ scope.names,y.2 = .free -> ∃ c,X.env.cells.lookup y.1 = some c := fun y hy e=>(ok.free y hy e).elim (fun k=>I.ok.has _ (.inl k)) fun k=>I.ok.has _ (.inr k)
 refine wpAny_comprehension_free rfl hs (closure_ok free) ok.kind (fun y hy e=>by rw [ok.uniq y hy,e]) (thn (hi.run pins s σ H _ I h) fun xv s1 hx=>thn hx fun itv s2 j2=>?_)
 obtain ⟨it,fp,tn,J,H2,e,I2,T,st2,f2,q⟩ := j2
 subst e
 refine wpAny_newObj_type (newEnv_comp ?_)
 generalize aD : s2.heap.objs.size = D
 obtain ⟨Wn,⟨m0,w0⟩,turn⟩ := q D (I2.hok.fresh (Nat.le_of_eq aD))
 generalize es3 : ({ s2 with heap := s2.heap.push { cls := .type "dict",data := .dict #[] } } : Shared) = s3
 have I3 : Inv X pins σ (upd H2 D (.dT [])) s3 := by
  rw [<- es3]
  refine I2.laid (t' := s2.toks) (fun b o e=>Heap.get?_push_of_some _ e) (Nat.le_of_eq aD) ?_
  rw [<- aD]
  exact dt_empty s2.heap I2.big
 have p3 : s3.heap = s2.heap.push { cls := .type "dict",data := .dict #[] } := by rw [<- es3]
 have lts : ∀ b ∈ fp,b < s2.heap.objs.size := fun b hb=>let ⟨o,e,_⟩ := T.obj _ _ st2 b hb; Heap.lt_size e
 have f3 : ∀ b ∈ fp,FpOk X pins (upd H2 D (.dT [])) b /\ b < s3.heap.objs.size := fun b hb=>by
  have lt := lts b hb
  refine ⟨⟨?_,(f2 b hb).2⟩,by rw [p3,Heap.size_push]; exact Nat.lt_succ_of_lt lt⟩
  rw [upd_ne (by rw [<- aD]; exact Nat.ne_of_lt lt)]
  exact (f2 b hb).1
 have st3 : tn 0 s3.heap := T.keep _ _ _ st2 fun b _ o e=>by rw [p3]; exact Heap.get?_push_of_some _ e
 have I4 := block_start I3 ok hN f3
 let cl := cellsFrom (s3.heap.objs.size + 1) scope.names (cloFrom X.env.cells scope.names [])
 have pg := hg s3 (upd H2 D (.dT [])) s3.heap.objs.size cl fp
 have pt := ht s3 (upd H2 D (.dT [])) s3.heap.objs.size cl fp
 have pk := hk s3 (upd H2 D (.dT [])) s3.heap.objs.size cl fp
 have pv := he s3 (upd H2 D (.dT [])) s3.heap.objs.size cl fp
 show codeAny _ _ (.compStart (.DictComp kx vx [⟨tg,iter,ifs,0⟩] scope pos) 0 (.ref it) (.ref D) (compEnvC scope cl s3.heap.objs.size X.env)) (compPost (model X.prog X.w) X.A X.xe none (EP X pins σ Q) (.ref D) s3.heap.objs.size) { s3 with heap := pushCells (s3.heap.push { cls := .type "dict",data := .dict #[] }) scope.names }
 have off : ∀ b ∈ fp,(upd H2 D (.dT [])) b = none := fun b hb=>(f3 b hb).1.1
 generalize ece : compEnvC scope cl s3.heap.objs.size X.env = ce at pg pt pk pv ⊢
 replace I4 : Inv (X.blk s3 (upd H2 D (.dT [])) scope ce fp) [] (wipe σ (own.map (·.2))) (upd H2 D (.dT [])) { s3 with heap := pushCells (s3.heap.push { cls := .type "dict",data := .dict #[] }) scope.names } := by rw [<- ece]; exact I4
 have loc : ce.locals = s3.heap.objs.size := by subst ece; rfl
 generalize eH3 : upd H2 D (.dT []) = H3 at I3 I4 pg pt pk pv w0 off f3
 generalize es4 : ({ s3 with heap := pushCells (s3.heap.push { cls := .type "dict",data := .dict #[] }) scope.names } : Shared) = s4 at I4 ⊢
 have st4 : tn 0 s4.heap := T.keep _ _ _ st3 fun b _ o e=>by rw [<- es4]; exact pushCells_keeps _ _ _ _ (Heap.get?_push_of_some _ e)
 have outs : ∀ {σ' : L2.St} {H' : Hp} {s' : Shared},Inv (X.blk s3 H3 scope ce fp) [] σ' H' s' -> (∀ b ∈ fp,H' b = none) -> ∀ b ∈ fp,FpOk (X.blk s3 H3 scope ce fp) [] H' b := fun {σ' H' s'} I' hn b hb =>
  ⟨hn b hb,(I'.ok.exf b hb).1,I'.ok.exfs b hb,.inl hb,fun x c e=>(I'.ok.exf b hb).2 x c e,fun p hp=>absurd (show p ∈ ([] : List (Addr × Obj)) ++ [] from hp) (by simp)⟩
 have loop : codeAny (model X.prog X.w) X.A (.compLoop (.DictComp kx vx [⟨tg,iter,ifs,0⟩] scope pos) 0 (.ref it) (.ref D) ce) (compPost (model X.prog X.w) X.A X.xe none (EP X pins σ Q) (.ref D) s3.heap.objs.size) s4 := by
  refine compLoop_anyD (fun n s'=>∃ i H',Inv (X.blk s3 H3 scope ce fp) [] (wipe σ (own.map (·.2))) H' s' /\ tn i s'.heap /\ (∀ b ∈ fp,H' b = none) /\ Wn i n H') ?_ m0 ⟨0,H3,I4,st4,off,w0⟩
  rintro n s5 ⟨i,H5,I5,st5,n5,w5⟩
  rcases turn i n H5 w5 with ⟨stop,qq⟩ | ⟨go,Go,hGo,step⟩
  ·refine thnF (T.done (X.blk s3 H3 scope ce fp) rfl rfl rfl hc i [] s5 _ H5 (fun _ _=>False) I5 (outs I5 n5) st5 stop) fun r s6 ⟨hr,I6⟩=>?_
   subst hr
   have I7 : Inv X pins σ H5 s6 := I3.call' (ch := fp) I6.os I6.base I6.hok I6.bare fun b hb=>⟨(f3 b hb).1.2.2.2.1,(f3 b hb).1.2.1,(f3 b hb).1.2.2.2.2.1,(f3 b hb).1.2.2.2.2.2⟩
   have z6 : H5 ce.locals = none := I6.free
   rw [loc] at z6
   obtain ⟨m,hn,_⟩ := I6.loc
   have hn : s6.heap.Ns ce.locals m := hn
   rw [loc] at hn
   obtain ⟨k0,k1,k2,k3,k4,k5⟩ := I3.fpOk (Nat.le_refl _) z6
   exact ⟨m,hn,fun h'' sb=>⟨.ref D,H5,I7.turned (t' := s6.toks) (fun b o hb e=>(sb.2 b hb).trans e) k0 k1 k3 k4 k5,rfl,qq⟩⟩
  ·refine thnF (T.item (X.blk s3 H3 scope ce fp) rfl rfl rfl hc i [] s5 _ H5 (fun _ _=>False) I5 (outs I5 n5) st5 go) fun r s6 ⟨u,hr,j6⟩=>?_
   subst hr
   refine thnF j6 fun _ s7 ⟨x,H7,I7,r7,y7,st7,n7⟩=>?_
   refine thnF (pg.run _ s7 _ H7 x u _ (I7.pinned (outs I7 n7) (T.obj _ _ st7)) r7 (step x H7 y7)) fun _ s8 ⟨σ8,H8,I8,w8,q8⟩=>?_
   refine thnF (pt.run _ s8 σ8 H8 _ I8 q8) fun b s9 ⟨H9,I9,q9⟩=>?_
   have fin : ∀ {s' : Shared} {H' : Hp},Inv (X.blk s3 H3 scope ce fp) ([] ++ pinsAt fp s7.heap) σ8 H' s' -> Go H' -> ∃ m,m < n /\ ∃ i H',Inv (X.blk s3 H3 scope ce fp) [] (wipe σ (own.map (·.2))) H' s' /\ tn i s'.heap /\ (∀ b ∈ fp,H' b = none) /\ Wn i m H' := fun {s' H'} I' nx=>by
    obtain ⟨m',hm,w'⟩ := hGo H' nx
    have pinned : ∀ b ∈ fp,∀ o,s7.heap.get? b = some o -> s'.heap.get? b = some o /\ H' b = none := fun b hb o e=>by
     have y := I'.pin (b,o) (List.mem_append_right _ (List.mem_append_right _ (mem_pinsAt hb e)))
     exact ⟨y.1,y.2.1⟩
    refine ⟨m',hm,i + 1,H',(I'.unpinned (pins := [])).weak (by rw [<- w8,wipe_length]) (fun j v e=>?_),T.keep _ _ _ st7 fun b hb o e=>(pinned b hb o e).1,fun b hb=>?_,w'⟩
    ·rw [<- w8] at e
     exact (wipe_some e).1
    ·obtain ⟨o,e,_⟩ := T.obj _ _ st7 b hb
     exact (pinned b hb o e).2
   cases b with
   | false =>
    rw [if_neg (by decide)] at q9
    rw [if_neg (by decide)]
    exact fin I9 q9
   | true =>
    rw [if_pos rfl] at q9
    rw [if_pos rfl]
    refine thnF (pk.run _ s9 σ8 H9 _ I9 q9) fun z s10 ⟨yk,H10,I10,r10,q10⟩=>?_
    refine thnF (pv.run _ s10 σ8 H10 _ I10 q10) fun z2 s11 ⟨yv,H11,I11,r11,kvs,k,a,ek,ha,hD,hz,nx⟩=>?_
    subst ek
    cases r10
    exact put_tup (X := X.blk s3 H3 scope ce fp) (show X.A.units + 1 < cLine by omega) I11 hD ha hz r11 fun s12 I12=>fin I12 nx
 exact codeAny_compStart_dict loop (T.self X.A 0 _ _ _ st4 loop)
end
end LowX
namespace LowX
open PySem PySem.Spec PyProof.Rows L2
def lay2 : Hp -> List Addr -> List (V × V) -> Hp
 | H,a :: as,p :: ps=>lay2 (upd H a (.tup [p.1,p.2])) as ps
 | H,_,_=>H
theorem lay2_off {b : Addr} : ∀ (as : List Addr) (ps : List (V × V)) (H : Hp),b ∉ as -> lay2 H as ps b = H b
 | [],_,_,_=>rfl
 | _ :: _,[],_,_=>rfl
 | a :: as,p :: ps,H,h=>by
  show lay2 (upd H a (.tup [p.1,p.2])) as ps b = H b
  rw [lay2_off as ps _ fun z=>h (List.mem_cons_of_mem _ z)]
  exact upd_ne fun z=>h (z ▸ List.mem_cons_self)
theorem lay2_at : ∀ (as : List Addr) (ps : List (V × V)) (H : Hp),as.length = ps.length -> as.Nodup -> Paired (fun (t : Addr) (p : V × V)=>lay2 H as ps t = some (.tup [p.1,p.2])) as ps
 | [],[],_,_,_=>.nil
 | [],_ :: _,_,h,_=>by cases h
 | _ :: _,[],_,h,_=>by cases h
 | a :: as,p :: ps,H,h,nd=>by
  obtain ⟨n1,n2⟩ := List.nodup_cons.mp nd
  refine .cons ?_ (lay2_at as ps (upd H a (.tup [p.1,p.2])) (Nat.succ.inj h) n2)
  show lay2 (upd H a (.tup [p.1,p.2])) as ps a = _
  rw [lay2_off as ps _ n1,upd_same]
section
variable {X : Cx} {e : Expr} {te : TE} {p apos cpos pos : Pos}
theorem laid2 {pins : List (Addr × Obj)} {σ : L2.St} {H : Hp} {z : Shared} {h' : Heap} {tk : Nat} {ps : List (V × V)} {es : Array DictEntry} {acc : Array Value} {c : Nat} {as : List Addr} (I : Inv X pins σ H z) (hz : ps.length <= sizeLine) (kv : Paired (fun (p : V × V) (e : DictEntry)=>RelV p.1 e.key /\ RelV p.2 e.val) ps es.toList)
  (hk : ∀ b o,z.heap.get? b = some o -> h'.get? b = some o) (hS : h'.get? z.heap.objs.size = some { cls := .type "list",dict := none,data := .seq acc c,slots := #[] }) (hl : as.length = es.size) (hG : PySem.W.DilG es z.heap.objs.size h' as) (ha : acc.toList = as.map Value.ref) :
  ∃ H' : Hp,(∀ b o,H b = some o -> H' b = some o) /\ H z.heap.objs.size = none /\ (∀ t ∈ as,H t = none) /\ z.heap.objs.size ∉ as /\ H' z.heap.objs.size = some (.lst (as.map V.ref)) /\ Paired (fun (t : Addr) (q : V × V)=>H' t = some (.tup [q.1,q.2])) as ps /\ Inv X pins σ H' { z with heap := h',toks := tk } := by
 have lk : ps.length = es.size := by rw [Paired.length kv,Array.length_toList]
 have nS : z.heap.objs.size ∉ as := fun y=>Nat.lt_irrefl _ (hG.above _ y)
 have nd : as.Nodup := List.Pairwise.imp (fun {a b} (h : a < b)=>Nat.ne_of_lt h) hG.rise
 have fr : ∀ t ∈ as,H t = none := fun t ht=>I.hok.fresh (Nat.le_of_lt (hG.above t ht))
 have fS : H z.heap.objs.size = none := I.hok.fresh (Nat.le_refl _)
 let H1 : Hp := lay2 (upd H z.heap.objs.size (.lst (as.map V.ref))) as ps
 have at1 := lay2_at as ps (upd H z.heap.objs.size (.lst (as.map V.ref))) (by omega) nd
 have off : ∀ b,b ∉ as -> b ≠ z.heap.objs.size -> H1 b = H b := fun b n1 n2=>by
  show lay2 _ as ps b = _
  rw [lay2_off as ps _ n1,upd_ne n2]
 have kp : ∀ b u,H b = some u -> H1 b = some u := fun b u e=>by
  rw [off b (fun y=>by rw [fr b y] at e; cases e) (fun y=>by rw [y,fS] at e; cases e)]
  exact e
 have eS : H1 z.heap.objs.size = some (.lst (as.map V.ref)) := by
  show lay2 _ as ps _ = _
  rw [lay2_off as ps _ nS,upd_same]
 refine ⟨H1,kp,fS,fr,nS,eS,at1,?_⟩
 refine I.call' (ch := []) rfl ⟨fun b o q _ _ _=>hk b o q,fun b o q _ _ _=>⟨o.slots,hk b o q⟩,fun b o q n _=>?_,fun b o q _=>⟨o,hk b o q⟩,fun b xs q=>kp b _ q,fun b o u q=>kp b _ q,fun b ps q=>⟨#[],by rw [kp b _ q]; simp⟩⟩ (fun b u q=>?_) I.bare fun b y=>by simp at y
 ·have lt := Heap.lt_size q
  rw [off b (fun y=>absurd lt (Nat.not_lt.mpr (Nat.le_of_lt (hG.above b y)))) (Nat.ne_of_lt lt)]
  exact n
 ·by_cases hb : b ∈ as
  ·obtain ⟨j,pk,e1,e2,e3⟩ := LiI.paired_ix at1 hb
   have e3 : H1 b = some (.tup [pk.1,pk.2]) := e3
   rw [e3] at q
   cases q
   obtain ⟨lt,g1⟩ := hG.pairs j b e1
   obtain ⟨en,h1,r1,r2⟩ := LiI.paired_get kv e2
   have h2 : es[j] = en := by
    rw [Array.getElem?_toList,Array.getElem?_eq_getElem lt] at h1
    exact Option.some.inj h1
   rw [h2] at g1
   exact ⟨by show 2 <= sizeLine; decide,[en.key,en.val],.cons r1 (.cons r2 .nil),⟨_,g1,rfl,_,rfl⟩⟩
  ·by_cases hb2 : b = z.heap.objs.size
   ·rw [hb2] at q ⊢
    rw [eS] at q
    cases q
    refine ⟨by rw [List.length_map]; omega,acc.toList,c,by rw [ha]; exact LiI.vals_refs as,?_⟩
    rw [Array.toArray_toList]
    exact hS
   ·rw [off b hb hb2] at q
    exact (I.hok b u q).stay (fun d v _ y=>hk d v y) (fun d y=>kp d _ y) fun d xs y=>kp d _ y
theorem kt_pairs {P : Program} {w : World} {H : Hp} : ∀ {kvs : List (List Key × V)} {xs : List (List Key × Addr × Value)},KT H kvs xs ->
  ∃ ps : List (V × V),Paired (fun (p : V × V) (e : DictEntry)=>RelV p.1 e.key /\ RelV p.2 e.val) ps (xs.map (entryOfKey (tupleKind (mixKind P w)))) /\ Paired (fun (p : V × V) (q : List Key × V)=>p.2 = q.2 /\ ∃ a,p.1 = .ref a /\ H a = some (.tup (q.1.map kV))) ps kvs
 | _,_,.nil=>⟨[],.nil,.nil⟩
 | _,_,.cons (a := p) (b := q) h t=>by
  obtain ⟨ps,h1,h2⟩ := kt_pairs (P := P) (w := w) t
  obtain ⟨e1,e2,e3⟩ := h
  exact ⟨(.ref q.2.1,p.2) :: ps,.cons ⟨rfl,e3⟩ h1,.cons ⟨rfl,q.2.1,rfl,by rw [e1] at *; exact e2⟩ h2⟩
def tListItT (te : TE) : TE := fun σ H Q=>te σ H fun x H1=>∃ (d : Addr) (kvs : List (List Key × V)),x = .ref d /\ Rd H1 d (.dT kvs) ∧
 ∀ (H' : Hp) (p : Addr) (ts : List Addr) (ps : List (V × V)),(∀ b o,H1 b = some o -> H' b = some o) -> H1 p = none -> (∀ t ∈ ts,H1 t = none) -> p ∉ ts -> H' p = some (.lst (ts.map V.ref)) -> Paired (fun (t : Addr) (q : V × V)=>H' t = some (.tup [q.1,q.2])) ts ps -> Paired (fun (p : V × V) (q : List Key × V)=>p.2 = q.2 /\ ∃ a,p.1 = .ref a /\ H1 a = some (.tup (q.1.map kV))) ps kvs -> Q (.ref p) H'
theorem pe_listItT (hc : X.calm = true) (he : PE X e te) (hg : Gl X "list") (hm : X.mg "list" = none) (hv : bootBuiltins "list" = some (.type "list") := by decide +kernel) (hbase : attributeBase e "items" X.env (eval e X.env) = eval e X.env := by rfl) (hline : (apos.endLine == cpos.line) = true := by rfl)
  (hs : starEach [.Call (.Attribute e "items" apos) [] [] cpos] X.env = (false,eval (.Call (.Attribute e "items" apos) [] [] cpos) X.env) :: starEach [] X.env := by rfl) :
  PE X (.Call (.Name "list" p) [.Call (.Attribute e "items" apos) [] [] cpos] [] pos) (tListItT te) := by
 refine ⟨fun pins s σ H Q I hq=>?_⟩
 refine wpAny_Call_Name_kw (ld_blt I hg hm hv (PyProof.Rows.callWith_type1 ?_ hs rfl))
 rw [hs]
 show wpAny _ _ (spliced ((false,eval (.Call (.Attribute e "items" apos) [] [] cpos) X.env) :: backTo pos (starEach [] X.env))) _ _ s
 refine Calls.spliced_cons (wpAny_Call_method (T := "dict") (id := "dict.items") hbase rfl hline F.plainAttrs_dict F.slot_dict_items F.type_dict_items (thn (he.run pins s σ H _ I hq) fun u s1 ⟨x,H1,I1,rx,d,kvs,ex,hd,q⟩=>?_))
 subst ex
 obtain rfl : u = Value.ref d := rx
 obtain ⟨hz,hs0,xs,rel,hdo⟩ := dt_rd I1.hok hd
 have hdo' := hdo
 obtain ⟨o,es,ep,ho,hx,hdat,hes,his,hn⟩ := hdo'
 obtain ⟨ps,r1,r2⟩ := kt_pairs (P := X.prog) (w := X.w) rel
 rw [<- hes] at r1
 have lk : ps.length = es.size := by rw [Paired.length r1,Array.length_toList]
 have lk2 : ps.length = kvs.length := Paired.length r2
 refine ⟨hdo.typeIs,fun a e=>by cases e; exact ⟨o,ho,hx.2.1⟩,?_⟩
 show wpAny _ _ (callWith cpos (.builtin "dict.items") [.ref d] [] []) _ X.xe s1
 refine method_meetsIn F.slot_dict_items F.entry_dict_items rfl (PySem.evalArgs_none ⟨rfl,hdo.typeIs,F.args_dict_items_1 _,_,DT.meetsItems hs0,⟨o,ho,hx,hdat⟩,?_⟩)
 refine Calls.spliced_nil ?_
 have I2 : Inv X pins σ H1 { s1 with heap := s1.heap.push { cls := .type "dict_items",data := .fields #[.ref d] } } := I1.kept (t' := s1.toks) fun b ob q=>Heap.get?_push_of_some _ q
 refine PySem.W.dil_call (es := es) (ep := ep) (I1.ok.hd hc) ⟨_,Heap.get?_push_size _ rfl,rfl,rfl⟩ ⟨o,Heap.get?_push_of_some _ ho,hx,hdat⟩ (by omega) fun h' tk acc c as hk hS hl hG hacc=>?_
 obtain ⟨H',k1,k2,k3,k4,k5,k6,J⟩ := laid2 (tk := tk) I2 (by omega) r1 hk hS hl hG hacc
 exact ⟨.ref _,H',J,rfl,q H' _ as ps k1 k2 k3 k4 k5 k6 r2⟩
end
end LowX
namespace DL
open PySem PySem.Spec PyProof.Rows L2 SrtK LowX
variable [TabL]
section
variable {K : PySem.W.Frag} {te ta tb tc td ty tv tx tk : TE} {tt tu : TT} {ts : TA} {t u : TS} {ρ : Env} {E : EndD} {Q : D -> Env -> Prop}
theorem reps_ints {H : Hp} : ∀ {vs : List V} {xs : List Int},Reps K H vs (xs.map D.int) -> vs = xs.map V.int
 | _,[],h=>by cases h; rfl
 | _,x :: xs,h=>by
  cases h with
  | cons a b =>
   rw [rep_int a,reps_ints b]; rfl
theorem opa_sum {ns : List Int} (q : Q (.int ns.sum) ρ) : OpA K (rSum K) [.lst (ns.map D.int)] ρ Q := fun F G H σ R vs hv Q' k=>by
 obtain ⟨v,rfl,hv1⟩ := hv.one
 obtain ⟨a,ws,rfl,h1,h2⟩ := rep_lst hv1
 rw [reps_ints h2] at h1
 exact ⟨a,ns,rfl,.inl (.inl (R.wd.g _ _ h1)),k _ _ ρ G H (Ex.refl G) R (.int _) q⟩
theorem ksum {X : Cx} (hc : X.calm = true) (h : X.K = K) : CallR X (.builtin "sum") (rSum K) := h ▸ cr_sum hc
theorem RE.grow {F G H H' : Hp} {σ : L2.St} (R : RE K F G H σ ρ) (x : Ex H H') : RE K F G H' σ ρ := by
 refine ⟨⟨R.wd.f.trans x,R.wd.g.trans x,R.wd.fg,R.wd.ft,R.wd.tb.step (fun _ _ z=>z) fun t ht=>?_⟩,R.sl.step (Ex.refl G) (fun a m=>?_),R.nd⟩
 ·obtain ⟨g1,g2,ps,g3,_⟩ := R.wd.tb t ht
  exact ⟨(x _ _ g3).trans g3.symm,g1,g2⟩
 ·obtain ⟨h1,h2,o,h3,_⟩ := R.sl.own m
  exact ⟨(x _ _ h3).trans h3.symm,h1⟩
theorem en_listItT (h : EvW K td ρ fun x ρ1=>∃ ps,x = .dt ps /\ Q (.lst (ps.map fun p=>.tup [.tup (p.1.map kD),p.2])) ρ1) : EvN K (tListItT td) ρ Q := fun F G H σ R Q' k =>
 h F G H σ R _ fun v x ρ1 G1 H1 e1 R1 hv q=>by
  obtain ⟨ps,rfl,q⟩ := q
  obtain ⟨a,kvs,rfl,h1,h2,h3⟩ := rep_dt hv
  refine ⟨a,kvs,rfl,R1.wd.g.rdx.1 _ _ trivial h1,fun H' p ts prs x1 n1 n2 n3 hp hts hps=>?_⟩
  have gp1 : G1 p = none := R1.wd.g.none n1
  have fp1 : F p = none := R1.wd.f.none n1
  have op1 : p ∉ ownA ρ1 := ownA_fresh R1 n1
  have R2 : RE K (upd F p (.lst (ts.map V.ref))) G1 H' σ ρ1 := (R1.grow x1).frm hp gp1 op1 ⟨fun _ z=>(nomatch z),fun _ z=>(nomatch z)⟩
  have key : ∀ {F2 : Hp} {ts : List Addr} {prs : List (V × V)} {kvs : List (List Key × V)} {ps : List (List Key × D)} {G2 : Hp},Ex G1 G2 -> RE K F2 G2 H' σ ρ1 -> Paired (fun (t : Addr) (q : V × V)=>H' t = some (.tup [q.1,q.2])) ts prs -> Paired (fun (p : V × V) (q : List Key × V)=>p.2 = q.2 /\ ∃ a,p.1 = .ref a /\ H1 a = some (.tup (q.1.map kV))) prs kvs -> kvs.map (·.1) = ps.map (·.1) -> Reps K G1 (kvs.map (·.2)) (ps.map (·.2)) ->
    ∃ G3,Ex G2 G3 /\ RE K F2 G3 H' σ ρ1 /\ Reps K G3 (ts.map V.ref) (ps.map fun p=>.tup [.tup (p.1.map kD),p.2]) := by
   intro F2 ts
   induction ts with
   | nil =>
    intro prs kvs ps G2 x2 Rg a b c d
    cases a; cases b
    cases ps with
    | nil=>exact ⟨G2,Ex.refl _,Rg,.nil⟩
    | cons _ _=>cases c
   | cons t ts ih =>
    intro prs kvs ps G2 x2 Rg ha hb hc hd
    cases ha with
    | cons a1 a2 =>
     cases hb with
     | cons b1 b2 =>
      cases ps with
      | nil=>cases hc
      | cons p0 ps =>
       obtain ⟨e2,ka,e3,e4⟩ := b1
       simp only [List.map_cons,List.cons.injEq] at hc
       cases hd with
       | cons d1 d2 =>
        obtain ⟨G3,y1,y2,y3⟩ := Rg.tupIn (x1 _ _ e4)
        obtain ⟨G4,y4,y5,y6⟩ := y2.tupIn a1
        obtain ⟨G5,y7,y8,y9⟩ := ih ((x2.trans y1).trans y4) y5 a2 b2 hc.2 d2
        refine ⟨G5,(y1.trans y4).trans y7,y8,.cons ?_ y9⟩
        refine .tup (y7 _ _ y6) (.cons ?_ (.cons ?_ .nil))
        ·rw [e3,<- hc.1]
         exact .tup (y7 _ _ (y4 _ _ y3)) (reps_kD _)
        ·rw [e2]
         exact d1.mono (((x2.trans y1).trans y4).trans y7)
  obtain ⟨G3,y1,y2,y3⟩ := key (Ex.refl G1) R2 hts hps h2 h3
  obtain ⟨R3,_,gp3⟩ := y2.unfrm fp1
  exact k p (.lst (ps.map fun p=>.tup [.tup (p.1.map kD),p.2])) ρ1 G3 H' (e1.trans y1) R3 gp3 fp1 op1 ⟨_,hp,y3⟩ q
end
end DL
namespace DL
open PySem PySem.Spec PyProof.Rows L2 SrtK LowX
variable [TabL]
section
variable {K : PySem.W.Frag} {te ta tb tc td ty tv tx tk : TE} {tt tu : TT} {ts : TA} {t u : TS} {ρ : Env} {E : EndD} {Q : D -> Env -> Prop}
theorem en_lcG {wi : TI} {g : TG} {vs : List Nat} (f : Nat -> D) (h : EvI K wi ρ fun ds ρ1=>ownFree ρ1 vs = true /\ ds.length <= 90000 ∧
   (∀ (i : Nat) d,ds[i]? = some d -> GV K g vs d (wipeE ρ1 vs) fun ρ2=>EvW K te ρ2 fun y ρ4=>ρ4 = ρ2 /\ y = f i) ∧
   Q (.lst ((List.range ds.length).map f)) ρ1) : EvN K (tLc wi g tYes te vs) ρ Q := by
 refine en_lc fun F G H σ R R' k=>h F G H σ R R' fun J ds ρ' G' H' e R1 Y q=>k J ds ρ' G' H' e R1 Y ?_
 obtain ⟨h1,h2,h3,h4⟩ := q
 refine ⟨h1,h2,fun i acc=>acc = (List.range i).map f,rfl,fun i d acc hd hp=>?_,fun acc hp=>?_⟩
 ·subst hp
  refine fun F G H σ v R hv Q' k=>h3 i d hd F G H σ v R hv Q' fun σ' ρ2 l s R2 q2=>k σ' ρ2 l s R2 (et_yes ⟨rfl,?_⟩)
  show EvW K te ρ2 _
  refine ew_weak q2 fun y ρ4 z=>⟨z.1,?_⟩
  show _ ++ [y] = _
  rw [z.2,List.range_succ,List.map_append]; rfl
 ·subst hp
  exact h4
end
end DL
namespace DL
open PySem PySem.Spec PyProof.Rows L2 SrtK LowX
variable [TabL]
abbrev TSp := List D -> (RV -> Prop) -> (Str -> Str -> D -> Prop) -> Prop
def TSh (T : TSp) : List Ag -> (RV -> List Ag -> Prop) -> (Str -> Str -> D -> Prop) -> Prop := fun ags Q X=>∃ ds,ags = ds.map Ag.sh /\ T ds (fun r=>Q r (ds.map Ag.sh)) X
theorem er_sh : ∀ {ags : Env} {ds : List D},(∀ s ∈ ags,s.isArg = true) -> ags.map Sl.er = ds.map Ag.sh -> ags = ds.map Sl.sh
 | [],[],_,_=>rfl
 | [],_ :: _,_,e=>by cases e
 | _ :: _,[],_,e=>by cases e
 | s :: ags,d :: ds,h,e=>by
  simp only [List.map_cons,List.cons.injEq] at e ⊢
  refine ⟨?_,er_sh (fun x hx=>h x (List.mem_cons_of_mem _ hx)) e.2⟩
  have h1 := h s List.mem_cons_self
  have h2 := e.1
  cases s with
  | sh d'=>unfold Sl.er at h2; cases h2; rfl
  | own a d'=>unfold Sl.er at h2; cases h2
  | drw a=>unfold Sl.er at h2; cases h2
  | _=>cases h1
theorem finL_sh : ∀ {ds : List D} {ρ : Env} {C : List Ag -> Prop},C (ds.map Ag.sh) -> FinL (ds.map Sl.sh) ρ C
 | [],_,_,h=>h
 | d :: ds,ρ,C,h=>by
  show FinL (ds.map Sl.sh) ρ.tail fun l=>C (.sh d :: l)
  exact finL_sh h
def BodyS (K : PySem.W.Frag) (N : List Str) (W : XK) (T : TSp) (t : TS) : Prop := ∀ ds Qd X,T ds Qd X -> WS K t (envP N ds) { nx := fun _=>Qd (.sh .non),rt := fun d _=>Qd (.sh d),ro := fun d _=>Qd (.nw d),W := W,xx := X }
section
variable {K : PySem.W.Frag} {te ta tb tc td ty tv tx tk : TE} {tt tu : TT} {ts : TA} {t u : TS} {ρ : Env} {E : EndD} {W : XK} {T : TSp}
theorem ws_ends {E' : EndD} (h : WS K t ρ E) (h1 : ∀ ρ,E.nx ρ -> E'.nx ρ) (h2 : ∀ d ρ,E.rt d ρ -> E'.rt d ρ) (h3 : ∀ d ρ,E.ro d ρ -> E'.ro d ρ) (h4 : ∀ ρ,E.bk ρ -> E'.bk ρ) (h5 : ∀ ρ,E.ct ρ -> E'.ct ρ) (hW : E'.W = E.W) (hX : E'.xx = E.xx) : WS K t ρ E' := fun F G H σ Dn R L =>
 h F G H σ Dn R ⟨fun σ' ρ' G' H' e R' q=>L.nx σ' ρ' G' H' e R' (h1 ρ' q),fun v d σ' ρ' G' H' e R' hv q=>L.rt v d σ' ρ' G' H' e R' hv (h2 d ρ' q),fun σ' ρ' G' H' e R' q=>L.bk σ' ρ' G' H' e R' (h4 ρ' q),fun σ' ρ' G' H' e R' q=>L.ct σ' ρ' G' H' e R' (h5 ρ' q),fun p d σ' ρ' G' H' e R' a b c o q=>L.ro p d σ' ρ' G' H' e R' a b c o (h3 d ρ' q),by have := L.xx; rw [hW,hX] at this; exact this⟩
theorem bodyS {N : List Str} (h : BodyS K N W T t) : BodyU K N W (TSh T) t := fun ags Qd X ha ht=>by
 obtain ⟨ds,e,ht⟩ := ht
 have e2 := er_sh ha e
 subst e2
 have hl : (ds.map Sl.sh).length = ds.length := List.length_map ..
 rw [hl]
 exact ws_ends (h ds _ X ht) (fun _ q=>finL_sh q) (fun _ _ q=>finL_sh q) (fun _ _ q=>finL_sh q) (fun _ q=>q) (fun _ q=>q) rfl rfl
end
section
variable {K : PySem.W.Frag} {P : Program} {w : World} {mg : Str -> Option Value} {base : Heap} {x qual : Str} {params : Arguments} {body : List Stmt} {scope : Scope} {fd : FuncData} {N ps : List Str} {k : Nat} {T : TSp}
def HbS (P : Program) (w : World) (K : PySem.W.Frag) (mg : Str -> Option Value) (base : Heap) (qual : Str) (body : List Stmt) (scope : Scope) (f : Addr) (fd : FuncData) (N : List Str) (k : Nat) (T : TSp) : Prop :=
 ∀ (cdv : Value) (A : Around) (outer : List PySem.Env) (s : Shared) (H : Hp) (W : XK),fd.code = cdv -> Room k (A.deeper (envOfC qual scope s.heap.objs.size f cdv)) ->
   Takes (cxOf (L2.CX P w) P w K mg base N qual scope f cdv A outer s H W) (fun cls d _ H=>W cls d H) -> PassesOwn (model P w) (A.deeper (envOfC qual scope s.heap.objs.size f cdv)) (envOfC qual scope s.heap.objs.size f cdv) (cxOf (L2.CX P w) P w K mg base N qual scope f cdv A outer s H W).xe ->
   ∃ t,PSs (cxOf (L2.CX P w) P w K mg base N qual scope f cdv A outer s H W) body t /\ BodyS K N W T t
theorem hbS {f : Addr} (h : HbS P w K mg base qual body scope f fd N k T) : HbU P w K mg base qual body scope f fd N k (TSh T) := fun cdv A outer s H W a b c d=>by
 obtain ⟨t,h1,h2⟩ := h cdv A outer s H W a b c d
 exact ⟨t,h1,bodyS h2⟩
theorem lenS (hl : ∀ ds Qd X,T ds Qd X -> ds.length = ps.length) : ∀ ds Qd X,TSh T ds Qd X -> ds.length = ps.length := fun ds Qd X h=>by
 obtain ⟨es,rfl,h⟩ := h
 rw [List.length_map]
 exact hl _ _ _ h
theorem fn_SX (F : FunD K x qual params body scope [] [] (He.ga K x) fd) (at_ : mg x = some (.ref (He.ga K x)))
  (bi : ∀ (kV doc pm : Value) (an : Option Addr) (cdv ct : Value) (us : List Value),us.length = ps.length -> bindArgs (PySem.W.fnOf x qual params body scope .none kV doc pm an cdv ct) ⟨us,[]⟩ = pure (ps.zip us))
  (S : FnScope N ps scope) (hl : ∀ ds Qd X,T ds Qd X -> ds.length = ps.length) (hb : HbS P w K mg base qual body scope (He.ga K x) fd N k T) : FnX P w K mg base (k + 1) x ps (spU K (TSh T)) :=
 fn_UX F at_ bi S (lenS hl) (hbS hb)
theorem fn_SM {C : Str} {f : Addr} (F : FunD K x qual params body scope [] [] f fd) (me : Meth K (He.ga K C) x f) (cl : Cls K (He.ga K C))
  (bi : ∀ (kV doc pm : Value) (an : Option Addr) (cdv ct : Value) (us : List Value),us.length = ps.length -> bindArgs (PySem.W.fnOf x qual params body scope .none kV doc pm an cdv ct) ⟨us,[]⟩ = pure (ps.zip us))
  (S : FnScope N ps scope) (hl : ∀ ds Qd X,T ds Qd X -> ds.length = ps.length) (hb : HbS P w K mg base qual body scope f fd N k T) : FnM P w K mg base (k + 1) C x ps (spU K (TSh T)) :=
 fn_UM F me cl bi S (lenS hl) (hbS hb)
end
section
variable {K : PySem.W.Frag} {te ta tb tc td ty tv tx tk : TE} {tt tu : TT} {ts : TA} {t u : TS} {ρ : Env} {E : EndD} {W : XK} {T : TSp} {X : Str -> Str -> D -> Prop}
theorem arsOk_d {G : Hp} {σ : L2.St} : ∀ {vs : List V} {ds : List D},Reps K G vs ds -> ArsOk K G σ vs (ds.map Ar.d)
 | _,_,.nil=>trivial
 | _,_,.cons h r=>⟨h,arsOk_d r⟩
theorem eg_ea {Q : List Ar -> Env -> Prop} (h : EvA K ts ρ fun ds ρ1=>Q (ds.map Ar.d) ρ1) : EvG K ts ρ Q := fun F G H σ R Q' k =>
 h F G H σ R Q' fun vs ds ρ' G' H' e R' hv q=>k vs (ds.map Ar.d) ρ' G' H' e R' (arsOk_d hv) q
theorem lent_d : ∀ ds : List D,lent ρ (ds.map Ar.d) = some (ds.map Sl.sh)
 | []=>rfl
 | d :: ds=>by
  show (lent ρ (ds.map Ar.d)).map (Sl.sh d :: ·) = _
  rw [lent_d ds]; rfl
theorem idx_d : ∀ ds : List D,idx (ds.map Ar.d) = []
 | []=>rfl
 | _ :: ds=>idx_d ds
theorem er_map (ds : List D) : (ds.map Sl.sh).map Sl.er = ds.map Ag.sh := by rw [List.map_map]; rfl
theorem xr_callS {Q : RV -> Env -> Prop} (h : EvA K ts ρ fun ds ρ1=>T ds (fun r=>Q r ρ1) X) : EvRX K (tCall (spU K (TSh T)) [] W ts) W ρ Q X :=
 xr_callU<|eg_ea fun F G H σ R Q' k=>h F G H σ R Q' fun vs ds ρ' G' H' e R' hv q=>k vs ds ρ' G' H' e R' hv ⟨_,lent_d ds,by rw [idx_d]; exact List.nodup_nil,ds,er_map ds,by simp only [putB_sh]; exact q⟩
theorem xr_methS {C m : Str} {Q : RV -> Env -> Prop} (h : EvW K ta ρ fun d ρ1=>∃ ps,d = .ins C ps /\ ps.lookup m = none /\ EvA K ts ρ1 fun ds ρ2=>T (.ins C ps :: ds) (fun r=>Q r ρ2) X) : EvRX K (tMeth (He.ga K C) m (spU K (TSh T)) [] W ta ts) W ρ Q X := by
 refine xr_meth (ew_weak h fun d ρ1 z=>?_)
 obtain ⟨ps,e,h1,h2⟩ := z
 refine ⟨ps,e,h1,eg_ea fun F G H σ R Q' k=>h2 F G H σ R Q' fun vs ds ρ' G' H' e R' hv q=>k vs ds ρ' G' H' e R' hv ⟨_,lent_d ds,by rw [idx_d]; exact List.nodup_nil,.ins C ps :: ds,by rw [er_map]; rfl,?_⟩⟩
 simp only [putB_sh]
 exact q
theorem ew_callS {Q : D -> Env -> Prop} (h : EvA K ts ρ fun ds ρ1=>T ds (fun r=>Q r.d ρ1) fun _ _ _=>False) : EvW K (tCall (spU K (TSh T)) [] W ts) ρ Q := ew_rv<|er_of<|xr_callS h
theorem en_callS {Q : D -> Env -> Prop} (h : EvA K ts ρ fun ds ρ1=>T ds (fun r=>∃ d,r = .nw d /\ Q d ρ1) fun _ _ _=>False) : EvN K (tCall (spU K (TSh T)) [] W ts) ρ Q := en_rv<|er_of<|xr_callS h
theorem ew_methS {C m : Str} {Q : D -> Env -> Prop} (h : EvW K ta ρ fun d ρ1=>∃ ps,d = .ins C ps /\ ps.lookup m = none /\ EvA K ts ρ1 fun ds ρ2=>T (.ins C ps :: ds) (fun r=>Q r.d ρ2) fun _ _ _=>False) : EvW K (tMeth (He.ga K C) m (spU K (TSh T)) [] W ta ts) ρ Q := ew_rv<|er_of<|xr_methS h
theorem ex_methS {C m : Str} {Q : D -> Env -> Prop} (h : EvW K ta ρ fun d ρ1=>∃ ps,d = .ins C ps /\ ps.lookup m = none /\ EvA K ts ρ1 fun ds ρ2=>T (.ins C ps :: ds) (fun r=>Q r.d ρ2) X) : EvX K (tMeth (He.ga K C) m (spU K (TSh T)) [] W ta ts) W ρ Q X := ex_rv<|xr_methS h
end
end DL
namespace DL
open PySem PySem.Spec PyProof.Rows L2 SrtK LowX
inductive PyI : Nat -> D -> Prop
 | non {n : Nat} : PyI n .non
 | int {n : Nat} (i : Int) : PyI n (.int i)
 | str {n : Nat} {x : Str} : PyData.strOk x = true -> PyI n (.str x)
 | lst {n : Nat} {xs : List D} : (∀ x ∈ xs,PyI n x) -> PyI (n + 1) (.lst xs)
 | tup {n : Nat} {xs : List D} : (∀ x ∈ xs,PyI n x) -> PyI (n + 1) (.tup xs)
theorem PyI.ok : ∀ {n : Nat} {x : D},PyI n x -> PyOk n x := fun h=>by
 induction h with
 | non=>exact .non
 | int i=>exact .int i
 | str h=>exact .str h
 | lst _ ih=>exact .lst ih
 | tup _ ih=>exact .tup ih
theorem eqvAll_iff {n m : Nat} (ih : ∀ x y p q,PyI n x -> PyI m y -> toPy x = some p -> toPy y = some q -> (PyData.eqv p q = true ↔ x = y)) :
  ∀ (xs ys : List D) (ps qs : List PyData),(∀ x ∈ xs,PyI n x) -> (∀ y ∈ ys,PyI m y) -> toPys xs = some ps -> toPys ys = some qs -> (PyData.eqvAll ps qs = true ↔ xs = ys)
 | [],[],ps,qs,_,_,h1,h2=>by
  rw [toPys] at h1
  rw [toPys] at h2
  cases h1; cases h2
  simp [PyData.eqvAll]
 | [],y :: ys,ps,qs,_,hy,h1,h2=>by
  rw [toPys] at h1
  rw [toPys] at h2
  cases h1
  cases e1 : toPy y with
  | none=>rw [e1] at h2; cases h2
  | some q =>
   cases e2 : toPys ys with
   | none=>rw [e1,e2] at h2; cases h2
   | some r=>rw [e1,e2] at h2; cases h2; simp [PyData.eqvAll]
 | x :: xs,[],ps,qs,hx,_,h1,h2=>by
  rw [toPys] at h1
  rw [toPys] at h2
  cases h2
  cases e1 : toPy x with
  | none=>rw [e1] at h1; cases h1
  | some q =>
   cases e2 : toPys xs with
   | none=>rw [e1,e2] at h1; cases h1
   | some r=>rw [e1,e2] at h1; cases h1; simp [PyData.eqvAll]
 | x :: xs,y :: ys,ps,qs,hx,hy,h1,h2=>by
  rw [toPys] at h1
  rw [toPys] at h2
  cases e1 : toPy x with
  | none=>rw [e1] at h1; cases h1
  | some p =>
   cases e2 : toPys xs with
   | none=>rw [e1,e2] at h1; cases h1
   | some r =>
    cases f1 : toPy y with
    | none=>rw [f1] at h2; cases h2
    | some q =>
     cases f2 : toPys ys with
     | none=>rw [f1,f2] at h2; cases h2
     | some t =>
      rw [e1,e2] at h1
      rw [f1,f2] at h2
      cases h1; cases h2
      rw [PyData.eqvAll,Bool.and_eq_true,ih x y p q (hx x List.mem_cons_self) (hy y List.mem_cons_self) e1 f1,eqvAll_iff ih xs ys r t (fun z hz=>hx z (List.mem_cons_of_mem _ hz)) (fun z hz=>hy z (List.mem_cons_of_mem _ hz)) e2 f2,List.cons.injEq]
theorem eqv_iff : ∀ (n m : Nat) (x y : D) (p q : PyData),PyI n x -> PyI m y -> toPy x = some p -> toPy y = some q -> (PyData.eqv p q = true ↔ x = y) := by
 intro n
 induction n with
 | zero =>
  intro m x y p q hx hy h1 h2
  cases hx with
  | non=>cases hy <;> (rw [toPy] at h1; cases h1) <;> first | (rw [toPy] at h2; cases h2; simp [PyData.eqv]; done) | (rw [toPy] at h2; obtain ⟨z,_,rfl⟩ := Option.map_eq_some_iff.mp h2; simp [PyData.eqv])
  | int i=>cases hy <;> (rw [toPy] at h1; cases h1) <;> first | (rw [toPy] at h2; cases h2; simp [PyData.eqv]; done) | (rw [toPy] at h2; obtain ⟨z,_,rfl⟩ := Option.map_eq_some_iff.mp h2; simp [PyData.eqv])
  | str _=>cases hy <;> (rw [toPy] at h1; cases h1) <;> first | (rw [toPy] at h2; cases h2; simp [PyData.eqv]; done) | (rw [toPy] at h2; obtain ⟨z,_,rfl⟩ := Option.map_eq_some_iff.mp h2; simp [PyData.eqv])
 | succ n ih =>
  intro m x y p q hx hy h1 h2
  cases hx with
  | non=>cases hy <;> (rw [toPy] at h1; cases h1) <;> first | (rw [toPy] at h2; cases h2; simp [PyData.eqv]; done) | (rw [toPy] at h2; obtain ⟨z,_,rfl⟩ := Option.map_eq_some_iff.mp h2; simp [PyData.eqv])
  | int i=>cases hy <;> (rw [toPy] at h1; cases h1) <;> first | (rw [toPy] at h2; cases h2; simp [PyData.eqv]; done) | (rw [toPy] at h2; obtain ⟨z,_,rfl⟩ := Option.map_eq_some_iff.mp h2; simp [PyData.eqv])
  | str _=>cases hy <;> (rw [toPy] at h1; cases h1) <;> first | (rw [toPy] at h2; cases h2; simp [PyData.eqv]; done) | (rw [toPy] at h2; obtain ⟨z,_,rfl⟩ := Option.map_eq_some_iff.mp h2; simp [PyData.eqv])
  | lst hxs =>
   rw [toPy] at h1
   obtain ⟨ps,e1,rfl⟩ := Option.map_eq_some_iff.mp h1
   cases hy with
   | lst hys =>
    rw [toPy] at h2
    obtain ⟨qs,e2,rfl⟩ := Option.map_eq_some_iff.mp h2
    rw [PyData.eqv,eqvAll_iff (ih _) _ _ _ _ hxs hys e1 e2,D.lst.injEq]
   | tup hys =>
    rw [toPy] at h2
    obtain ⟨qs,e2,rfl⟩ := Option.map_eq_some_iff.mp h2
    simp [PyData.eqv]
   | _=>rw [toPy] at h2; cases h2; simp [PyData.eqv]
  | tup hxs =>
   rw [toPy] at h1
   obtain ⟨ps,e1,rfl⟩ := Option.map_eq_some_iff.mp h1
   cases hy with
   | tup hys =>
    rw [toPy] at h2
    obtain ⟨qs,e2,rfl⟩ := Option.map_eq_some_iff.mp h2
    rw [PyData.eqv,eqvAll_iff (ih _) _ _ _ _ hxs hys e1 e2,D.tup.injEq]
   | lst hys =>
    rw [toPy] at h2
    obtain ⟨qs,e2,rfl⟩ := Option.map_eq_some_iff.mp h2
    simp [PyData.eqv]
   | _=>rw [toPy] at h2; cases h2; simp [PyData.eqv]
theorem bool_eq {a b : Bool} {C : Prop} (h1 : a = true ↔ C) (h2 : b = true ↔ C) : a = b := by
 cases a <;> cases b <;> simp_all
variable [TabL]
section
variable {K : PySem.W.Frag} {ρ : Env} {Q : D -> Env -> Prop}
theorem py_parts {n : Nat} {x : D} (h : PyI n x) (hn : n <= 64) : ∃ p,toPy x = some p /\ SeqAt.shaped p = true := by
 obtain ⟨p,h1,h2,h3⟩ := pyOk_py n x h.ok
 refine ⟨p,h1,?_⟩
 unfold SeqAt.shaped
 rw [h2,decide_eq_true (Nat.le_trans h3 hn)]; rfl
theorem op2_eqI {x y : D} {n m : Nat} {b : Bool} (hx : PyI n x) (hy : PyI m y) (hn : n <= 64) (hm : m <= 64) (hb : b = true ↔ x = y) (q : Q (.bl b) ρ) : Op2 K (rEqD K) x y ρ Q := by
 obtain ⟨p,h1,h2⟩ := py_parts hx hn
 obtain ⟨r,g1,g2⟩ := py_parts hy hm
 refine op2_eqD h1 g1 h2 g2 ?_
 rw [bool_eq (eqv_iff n m x y p r hx hy h1 g1) hb]
 exact q
theorem op2_neI {x y : D} {n m : Nat} {b : Bool} (hx : PyI n x) (hy : PyI m y) (hn : n <= 64) (hm : m <= 64) (hb : b = true ↔ x = y) (q : Q (.bl (!b)) ρ) : Op2 K (rNeD K) x y ρ Q := by
 obtain ⟨p,h1,h2⟩ := py_parts hx hn
 obtain ⟨r,g1,g2⟩ := py_parts hy hm
 refine op2_neD h1 g1 h2 g2 ?_
 rw [bool_eq (eqv_iff n m x y p r hx hy h1 g1) hb]
 exact q
end
end DL
namespace DL
open PySem PySem.Spec PyProof.Rows L2 SrtK LowX
variable [TabL]
section
variable {P : Program} {w : World} {K : PySem.W.Frag} {mg : Str -> Option Value} {base : Heap} {te ta : TE} {ρ : Env} {E : EndD}
theorem fn_PC {x qual : Str} {params : Arguments} {body : List Stmt} {scope : Scope} {f : Addr} {fd : FuncData} {N ps : List Str} {k : Nat} {T : List D -> (D -> Prop) -> Prop}
  (F : FunD K x qual params body scope [] [] f fd) (S : FnScope N ps scope) (hl : ∀ ds Qd,T ds Qd -> ds.length = ps.length)
  (hb : ∀ (cdv : Value) (A : Around) (outer : List PySem.Env) (s : Shared) (H : Hp) (E : XK),fd.code = cdv -> Room k (A.deeper (envOfC qual scope s.heap.objs.size f cdv)) ->
   ∃ t,PSs (cxOf CX0 P w K mg base N qual scope f cdv A outer s H E).nox body t /\ ∀ ds Qd,T ds Qd -> WS K t (envP N ds) { nx := fun _=>Qd .non,rt := fun d _=>Qd d }) :
  FnOk P w K mg base CX0 (k + 1) f fd ps (spP K T) := by
 obtain ⟨oc,od,dV,kV,doc,pm,an,cdv,ct,osl,rfl,lk,hcd,_,_⟩ := F.ex
 refine fn_of lk hcd S (fun vs H Q E h=>?_) fun A outer s H vs Q E hr h=>?_
 ·obtain ⟨_,_,ds,Qd,_,r,t,_⟩ := h
  rw [r.length]; exact hl ds Qd t
 ·obtain ⟨F',G,ds,Qd,W,r,tt,post⟩ := h
  obtain ⟨t,hd,hw⟩ := hb cdv A outer s H E rfl hr
  refine ⟨t,PSs.nox hd,?_⟩
  have R : RE K F' G H (L2.start N vs) (envP N ds) := by
   unfold L2.start
   refine ⟨W,by rw [r.length]; exact slots_start _ r,by rw [own_start]; exact List.nodup_nil⟩
  refine hw ds Qd tt F' G H (L2.start N vs) _ R ⟨fun σ' ρ' G' H' e R' q=>?_,fun v d σ' ρ' G' H' e R' hv q=>?_,fun σ' ρ' G' H' e R' q=>q.elim,fun σ' ρ' G' H' e R' q=>q.elim,fun p d σ' ρ' G' H' e R' _ _ _ _ q=>q.elim,fun C f v d dx G' H' _ _ _ _ _ _ q=>q.elim⟩
  ·exact post .non .non G' H' e R'.wd .non q
  ·exact post v d G' H' e R'.wd hv q
theorem kmethX {X : Cx} {k : Nat} {C m : Str} {ps : List Str} {sp : Sp} {o e : Expr} {es : List Expr} {ta : TE} {t : TA} {W : WX} {E : XK} {apos pos : Pos} {pl : Sem Bool} (hK : X.K = K) (F : FnM X.prog X.w X.K X.mg X.base k C m ps sp) (tk : Takes X W) (hW : ∀ cls d σ H,E cls d H -> W cls d σ H) (hr : Room k X.A) (he : PE X o ta) (ha : PA X (e :: es) t)
  (hst : starEach (e :: es) X.env = (false,eval e X.env) :: starEach es X.env := by rfl) (hpl : (backTo pos (starEach es X.env)).any (·.1) = false := by rfl)
  (ht : eval (.Call (.Attribute o m apos) (e :: es) [] pos) X.env = (do
   let ov <- eval o X.env
   standAt apos.atName
   let (f,first) <- holding [ov] (getMethod ov m pl)
   callWith pos f first (backTo pos (starEach (e :: es) X.env)) (backToKw pos (keywordEach [] X.env))) := by rfl) : PE X (.Call (.Attribute o m apos) (e :: es) [] pos) (tMeth (He.ga K C) m sp [] E ta t) := hK ▸ pe_methX F tk hW hr he ha hst hpl ht
theorem kmethX0 {X : Cx} {k : Nat} {C m : Str} {ps : List Str} {sp : Sp} {o : Expr} {ta : TE} {W : WX} {E : XK} {apos pos : Pos} {pl : Sem Bool} (hK : X.K = K) (F : FnM X.prog X.w X.K X.mg X.base k C m ps sp) (tk : Takes X W) (hW : ∀ cls d σ H,E cls d H -> W cls d σ H) (hr : Room k X.A) (he : PE X o ta)
  (ht : eval (.Call (.Attribute o m apos) [] [] pos) X.env = (do
   let ov <- eval o X.env
   standAt apos.atName
   let (f,first) <- holding [ov] (getMethod ov m pl)
   callWith pos f first (backTo pos (starEach [] X.env)) (backToKw pos (keywordEach [] X.env))) := by rfl) : PE X (.Call (.Attribute o m apos) [] [] pos) (tMeth (He.ga K C) m sp [] E ta tNil) := hK ▸ pe_methX0 F tk hW hr he ht
end
end DL
namespace DL
open PySem PySem.Spec PyProof.Rows L2 SrtK LowX
variable [TabL]
theorem wipeE_in {ρ : Env} : ∀ {vs : List Nat} {i : Nat} {r : Sl},i ∈ vs -> (wipeE ρ vs)[i]? = some r -> r = .un
 | v :: vs,i,r,m,h=>by
  have h : ((wipeE ρ vs).set v .un)[i]? = some r := h
  by_cases e : v = i
  ·subst e
   have hl : v < (wipeE ρ vs).length := by
    have := (List.getElem?_eq_some_iff.mp h).1
    rw [List.length_set] at this; exact this
   rw [List.getElem?_set_self hl] at h
   exact (Option.some.inj h).symm
  ·rw [List.getElem?_set_ne e] at h
   rcases List.mem_cons.mp m with z | z
   ·exact absurd z.symm e
   ·exact wipeE_in z h
section
variable {K : PySem.W.Frag} {te ta tb tc td ty tv tx tk : TE} {tt tu : TT} {ts : TA} {t u : TS} {ρ : Env} {E : EndD} {Q : D -> Env -> Prop}
theorem RE.unwipe {F G H : Hp} {σ : L2.St} {vs : List Nat} (R : RE K F G H (L2.wipe σ vs) (wipeE ρ vs)) : RE K F G H σ (wipeE ρ vs) := by
 refine ⟨R.wd,slots_ix (by have := R.sl.length; rw [L2.wipe_length] at this; exact this) fun j s r hs hr=>?_,R.nd⟩
 by_cases m : j ∈ vs
 ·rw [wipeE_in m hr]; trivial
 ·obtain ⟨s',h1,h2⟩ := R.sl.get hr
  rw [wipe_at m,hs] at h1
  cases h1
  exact h2
theorem en_lcE {wi : TI} {g : TG} {vs : List Nat} (h : EvI K wi ρ fun ds ρ1=>ds.length <= 90000 /\ ∃ P : Nat -> List D -> Env -> Prop,P 0 [] (wipeE ρ1 vs) ∧
   (∀ i d acc ρ0,ds[i]? = some d -> P i acc (wipeE ρ0 vs) -> GV K g vs d (wipeE ρ0 vs) fun ρ2=>EvT K tt ρ2 fun b ρ3=>if b = true then EvW K te ρ3 fun y ρ4=>P (i + 1) (acc ++ [y]) (wipeE ρ4 vs) else P (i + 1) acc (wipeE ρ3 vs)) ∧
   ∀ acc ρ0,P ds.length acc (wipeE ρ0 vs) -> Q (.lst acc) (wipeE ρ0 vs)) : EvN K (tLc wi g tt te vs) ρ Q := fun F G H σ R Q' k =>
 h F G H σ R _ fun J ds ρ1 G1 H1 e1 R1 Y q=>fun Dd hD=>by
  obtain ⟨hlen,P,p0,turn,fin⟩ := q
  have hF0 : F Dd = none := R1.wd.f.none hD
  have nt : NT (.lst ([] : List V)) := ⟨fun _ z=>(nomatch z),fun _ z=>(nomatch z)⟩
  refine ⟨fun i m H'=>m + i = ds.length /\ ∃ acc accV G' ρ0,Ex G1 G' /\ RE K F G' H' (L2.wipe σ vs) (wipeE ρ0 vs) /\ G' Dd = none /\ Dd ∉ ownA (wipeE ρ0 vs) /\ H' Dd = some (.lst accV) /\ Reps K G' accV acc /\ acc.length <= i /\ P i acc (wipeE ρ0 vs),
   ⟨ds.length,rfl,[],[],G1,ρ1,Ex.refl _,(R1.alone hD).wipe vs,R1.wd.g.none hD,ownA_fresh (R1.wipe vs) hD,upd_same,.nil,Nat.le_refl _,p0⟩,?_⟩
  rintro i m H' ⟨hm,acc,accV,G',ρ0,e',R',hG,hO,hH,ra,hl,p⟩
  have Rf := R'.frm hH hG hO ⟨fun _ z=>(nomatch z),fun _ z=>(nomatch z)⟩
  by_cases hi : i < ds.length
  ·refine .inr ⟨Y.go _ G' H' _ _ i e' Rf hi,fun H2=>∃ acc accV G2 ρ0,Ex G1 G2 /\ RE K F G2 H2 (L2.wipe σ vs) (wipeE ρ0 vs) /\ G2 Dd = none /\ Dd ∉ ownA (wipeE ρ0 vs) /\ H2 Dd = some (.lst accV) /\ Reps K G2 accV acc /\ acc.length <= i + 1 /\ P (i + 1) acc (wipeE ρ0 vs),fun H2 z=>⟨m - 1,by omega,by omega,z⟩,fun x H2 y=>?_⟩
   obtain ⟨G2,d,e2,R2,hd,hx⟩ := Y.yld _ G' H' _ _ i x H2 e' Rf hi y
   refine turn i d acc ρ0 hd p _ G2 H2 _ x R2 hx _ fun σ2 ρ2 l2 s2 R3 w3=>?_
   have ew : L2.wipe σ2 vs = L2.wipe σ vs := by
    have e0 : L2.wipe (L2.wipe σ vs) vs = L2.wipe σ vs := wipe_eq (L2.wipe_length σ vs) fun i hi=>wipe_at hi
    rw [wipe_eq l2 fun i hi=>(s2 i hi).1,e0]
   refine ⟨ew,w3 _ G2 H2 σ2 R3 _ fun b ρ3 G4 H4 e4 R4 w4=>?_⟩
   have back : ∀ {G5 H5 : Hp} {ρ5 : Env},RE K (upd F Dd (.lst accV)) G5 H5 σ2 ρ5 -> RE K F G5 H5 (L2.wipe σ vs) (wipeE ρ5 vs) /\ H5 Dd = some (.lst accV) /\ G5 Dd = none /\ Dd ∉ ownA (wipeE ρ5 vs) := fun {G5 H5 ρ5} R5=>by
    have R5w := R5.wipe vs
    rw [ew] at R5w
    obtain ⟨R6,h6,g6⟩ := R5w.unfrm hF0
    exact ⟨R6,h6,g6,R5w.unfrm' hF0⟩
   cases b with
   | true =>
    refine w4 _ G4 H4 σ2 R4 _ fun v yv ρ5 G5 H5 e5 R5 hvy w5=>?_
    obtain ⟨R6,h6,g6,o6⟩ := back R5
    refine ⟨accV,h6,by rw [ra.length]; exact bigl (by omega),acc ++ [yv],accV ++ [v],G5,ρ5,((e'.trans e2).trans e4).trans e5,R6.aloneU g6 hF0 o6 h6 ⟨fun _ z=>(nomatch z),fun _ z=>(nomatch z)⟩,g6,o6,upd_same,(ra.mono ((e2.trans e4).trans e5)).append (.cons hvy .nil),by simp; omega,w5⟩
   | false =>
    obtain ⟨R6,h6,g6,o6⟩ := back R4
    exact ⟨acc,accV,G4,ρ3,(e'.trans e2).trans e4,R6,g6,o6,h6,ra.mono (e2.trans e4),by omega,w4⟩
  ·have ei : i = ds.length := by omega
   subst ei
   exact .inl ⟨Y.stop _ G' H' _ _ e' R',k Dd (.lst acc) _ G' H' (e1.trans e') R'.unwipe hG hF0 hO ⟨accV,hH,ra⟩ (fin acc ρ0 p)⟩
end
abbrev P3 := Int × Int × Int
def stD (p : P3) : D := .lst [.int p.1,.int p.2.1,.int p.2.2]
def Bud (n : Nat) (p : P3) : Prop := 0 <= p.2.1 /\ p.2.1 <= 1099511627776 /\ 0 <= p.2.2 /\ p.2.2 + n <= 1099511627776
theorem Bud.less {n m : Nat} {p : P3} (h : Bud n p) (hm : m <= n) : Bud m p := ⟨h.1,h.2.1,h.2.2.1,by have := h.2.2.2; omega⟩
abbrev TVp := List D -> (D -> Prop) -> Prop
def TV (c : Nat) (T : TVp) : List Ag -> (RV -> List Ag -> Prop) -> (Str -> Str -> D -> Prop) -> Prop := fun ags Q _=>∃ p n ds,ags = .ow (stD p) :: ds.map Ag.sh /\ Bud (n + c) p /\ T ds fun d=>∀ p',Bud n p' -> Q (.sh d) (.ow (stD p') :: ds.map Ag.sh)
abbrev envV (a : Addr) (p : P3) (N : List Str) (ds : List D) : Env := Sl.own a (stD p) :: (ds.map Sl.sh ++ List.replicate (N.length - 1 - ds.length) Sl.un)
def Left (a : Addr) (n : Nat) (ρ : Env) : Prop := ∃ p,ρ[0]? = some (.own a (stD p)) /\ Bud n p
def BodyV (K : PySem.W.Frag) (N : List Str) (W : XK) (c : Nat) (T : TVp) (t : TS) : Prop := ∀ a p n ds Qd,Bud (n + c) p -> T ds Qd -> WS K t (envV a p N ds) { nx := fun ρ=>Left a n ρ /\ Qd .non,rt := fun d ρ=>Left a n ρ /\ Qd d,W := W }
section
variable {K : PySem.W.Frag} {te ta tb tc td ty tv tx tk : TE} {tt tu : TT} {ts : TA} {t u : TS} {ρ : Env} {E : EndD} {W : XK} {T : TVp} {c : Nat}
theorem ws_endsF {E' : EndD} (h : WS K t ρ E) (h1 : ∀ ρ,E.nx ρ -> E'.nx ρ) (h2 : ∀ d ρ,E.rt d ρ -> E'.rt d ρ) (h3 : ∀ d ρ,E.ro d ρ -> E'.ro d ρ) (h4 : ∀ ρ,E.bk ρ -> E'.bk ρ) (h5 : ∀ ρ,E.ct ρ -> E'.ct ρ) (hX : ∀ C f d,¬ E.xx C f d) : WS K t ρ E' := fun F G H σ Dn R L =>
 h F G H σ Dn R ⟨fun σ' ρ' G' H' e R' q=>L.nx σ' ρ' G' H' e R' (h1 ρ' q),fun v d σ' ρ' G' H' e R' hv q=>L.rt v d σ' ρ' G' H' e R' hv (h2 d ρ' q),fun σ' ρ' G' H' e R' q=>L.bk σ' ρ' G' H' e R' (h4 ρ' q),fun σ' ρ' G' H' e R' q=>L.ct σ' ρ' G' H' e R' (h5 ρ' q),fun p d σ' ρ' G' H' e R' a b c o q=>L.ro p d σ' ρ' G' H' e R' a b c o (h3 d ρ' q),fun C f v d dx G' H' _ _ _ _ _ _ q=>absurd q (hX C f d)⟩
theorem bodyV {N : List Str} (h : BodyV K N W c T t) : BodyU K N W (TV c T) t := fun ags Qd X ha ht=>by
 obtain ⟨p,n,ds,e,hb,ht⟩ := ht
 cases ags with
 | nil=>cases e
 | cons s ags =>
  simp only [List.map_cons,List.cons.injEq] at e
  obtain ⟨e1,e2⟩ := e
  have e3 := er_sh (fun x hx=>ha x (List.mem_cons_of_mem _ hx)) e2
  subst e3
  have hs := ha s List.mem_cons_self
  cases s with
  | own a d =>
   unfold Sl.er at e1
   cases e1
   have hl : (Sl.own a (stD p) :: ds.map Sl.sh).length = ds.length + 1 := by simp
   have he : (Sl.own a (stD p) :: ds.map Sl.sh) ++ List.replicate (N.length - (Sl.own a (stD p) :: ds.map Sl.sh).length) Sl.un = envV a p N ds := by
    rw [hl,show N.length - (ds.length + 1) = N.length - 1 - ds.length by omega]; rfl
   rw [he]
   refine ws_endsF (h a p n ds _ hb ht) (fun ρ q=>?_) (fun d ρ q=>?_) (fun _ _ q=>q.elim) (fun _ q=>q.elim) (fun _ q=>q.elim) (fun _ _ _ q=>q)
   ·obtain ⟨⟨p',h0,hb'⟩,q⟩ := q
    exact ⟨_,by rw [List.head?_eq_getElem?]; exact h0,finL_sh (q p' hb')⟩
   ·obtain ⟨⟨p',h0,hb'⟩,q⟩ := q
    exact ⟨_,by rw [List.head?_eq_getElem?]; exact h0,finL_sh (q p' hb')⟩
  | sh d=>unfold Sl.er at e1; cases e1
  | drw a=>unfold Sl.er at e1; cases e1
  | _=>cases hs
theorem ew_callV {i : Nat} {a : Addr} {p : P3} {Q : D -> Env -> Prop} (n : Nat) (hi : ρ[i]? = some (.own a (stD p))) (h : EvA K ts ρ fun ds ρ1=>∃ p1,ρ1[i]? = some (.own a (stD p1)) /\ Bud (n + c) p1 /\ T ds fun d=>∀ p',Bud n p' -> Q d (ρ1.set i (.own a (stD p')))) : EvW K (tCall (spU K (TV c T)) [] W (tCons (tVar i) ts)) ρ Q := by
 refine ew_rv<|er_of<|xr_callU<|eg_ow hi rfl<|eg_ea fun F G H σ R Q' k=>h F G H σ R Q' fun vs ds ρ' G' H' e R' hv q=>k vs ds ρ' G' H' e R' hv ?_
 obtain ⟨p1,h1,hb,q⟩ := q
 refine ⟨.own a (stD p1) :: ds.map Sl.sh,?_,?_,p1,n,ds,?_,hb,?_⟩
 ·unfold lent
  rw [h1,lent_d]; rfl
 ·show (i :: idx (ds.map Ar.d)).Nodup
  rw [idx_d]; simp
 ·show Sl.er _ :: (ds.map Sl.sh).map Sl.er = _
  rw [er_map]; rfl
 ·have key : ∀ (d : D) (p' : P3),putB ρ' (.s i :: ds.map Ar.d) (.ow (stD p') :: ds.map Ag.sh) = ρ'.set i (.own a (stD p')) := fun d p'=>by
   show putB (match ρ'[i]? with | some r=>ρ'.set i (upS r (.ow (stD p'))) | none=>ρ') (ds.map Ar.d) _ = _
   rw [h1,putB_sh]; rfl
  refine cast ?_ q
  congr 1
  funext d
  refine propext ⟨fun z p' hb'=>?_,fun z p' hb'=>?_⟩
  ·show Q d (putB ρ' (.s i :: ds.map Ar.d) _)
   rw [key d p']; exact z p' hb'
  ·have := z p' hb'
   have this : Q d (putB ρ' (.s i :: ds.map Ar.d) (.ow (stD p') :: ds.map Ag.sh)) := this
   rw [key d p'] at this
   exact this
end
section
variable {K : PySem.W.Frag} {P : Program} {w : World} {mg : Str -> Option Value} {base : Heap} {x qual : Str} {params : Arguments} {body : List Stmt} {scope : Scope} {fd : FuncData} {N ps : List Str} {k c : Nat} {T : TVp}
theorem fn_VX (F : FunD K x qual params body scope [] [] (He.ga K x) fd) (at_ : mg x = some (.ref (He.ga K x)))
  (bi : ∀ (kV doc pm : Value) (an : Option Addr) (cdv ct : Value) (us : List Value),us.length = ps.length -> bindArgs (PySem.W.fnOf x qual params body scope .none kV doc pm an cdv ct) ⟨us,[]⟩ = pure (ps.zip us))
  (S : FnScope N ps scope) (hl : ∀ ds Qd,T ds Qd -> ds.length + 1 = ps.length)
  (hb : ∀ (cdv : Value) (A : Around) (outer : List PySem.Env) (s : Shared) (H : Hp) (W : XK),fd.code = cdv -> Room k (A.deeper (envOfC qual scope s.heap.objs.size (He.ga K x) cdv)) ->
   Takes (cxOf (L2.CX P w) P w K mg base N qual scope (He.ga K x) cdv A outer s H W) (fun cls d _ H=>W cls d H) -> PassesOwn (model P w) (A.deeper (envOfC qual scope s.heap.objs.size (He.ga K x) cdv)) (envOfC qual scope s.heap.objs.size (He.ga K x) cdv) (cxOf (L2.CX P w) P w K mg base N qual scope (He.ga K x) cdv A outer s H W).xe ->
   ∃ t,PSs (cxOf (L2.CX P w) P w K mg base N qual scope (He.ga K x) cdv A outer s H W) body t /\ BodyV K N W c T t) : FnX P w K mg base (k + 1) x ps (spU K (TV c T)) :=
 fn_UX F at_ bi S (fun ds Qd X h=>by
  obtain ⟨p,n,es,rfl,_,h⟩ := h
  rw [List.length_cons,List.length_map]
  exact hl _ _ h) fun cdv A outer s H W a b c' d=>by
  obtain ⟨t,h1,h2⟩ := hb cdv A outer s H W a b c' d
  exact ⟨t,h1,bodyV h2⟩
end
end DL
namespace LowX
open PySem PySem.Spec PyProof.Rows L2
section
variable {X : Cx} {K : PySem.W.Frag} {w : World}
def eqs (k : Str) (v : Value) : Bool := match v with
 | .str n _=>n.cps.toList == k.cps.toList
 | _=>false
theorem eqs_gives {k : Str} {t : Tok} : ∀ {us : List Value} {ns : List Str},Vals (ns.map V.str) us -> ∀ y ∈ us,MeetsSeq.EqGives y (.str k t) (eqs k y)
 | [],_,_=>fun y hy=>by cases hy
 | u :: us,[],h=>by cases h
 | u :: us,n :: ns,h=>fun y hy=>by
  rw [List.map_cons] at h
  cases h with
  | cons a b =>
   obtain ⟨t',rfl⟩ := a
   rcases List.mem_cons.mp hy with e | e
   ·rw [e]
    exact SeqRoads2.EqGives.str n k t' t
   ·exact eqs_gives b y e
theorem cps_beq (n k : Str) : (n.cps.toList == k.cps.toList) = (n == k) := by
 rw [Bool.eq_iff_iff,beq_iff_eq,beq_iff_eq]
 refine ⟨fun h=>?_,fun h=>by rw [h]⟩
 cases n; cases k
 have := Array.toList_inj.mp h
 simp at this
 rw [this]
theorem eqs_count {k : Str} : ∀ {us : List Value} {ns : List Str},Vals (ns.map V.str) us -> us.countP (eqs k) = ns.count k
 | [],[],_=>rfl
 | [],n :: ns,h=>by cases h
 | u :: us,[],h=>by cases h
 | u :: us,n :: ns,h=>by
  rw [List.map_cons] at h
  cases h with
  | cons a b =>
   obtain ⟨t',rfl⟩ := a
   have ih := eqs_count (k := k) b
   rw [List.countP_cons,List.count_cons,ih,show eqs k (.str n t') = (n == k) from cps_beq n k]
def rCntS (K : PySem.W.Frag) : V -> List V -> Hp -> VK -> Prop := fun x xs H Q=>∃ (p : Addr) (ns : List Str) (k : Str),x = .ref p /\ xs = [.str k] /\ SqL K H p (ns.map V.str) /\ Q (.int (ns.count k : Nat)) H
theorem mt_lcountS (hK : X.K = K) : MtR X "list.count" (rCntS K) := by
 subst hK
 intro pins s σ H x xs v us Q I rx rxs h
 obtain ⟨p,ns,k,rfl,rfl,hs,q⟩ := h
 cases rx
 obtain ⟨u,rfl,ru⟩ := rxs.one
 obtain ⟨t,rfl⟩ := ru
 obtain ⟨its,rv,⟨⟨cls,dd,data,sl⟩,n,ho,hc,hdn,hd⟩,hlen⟩ := I.list hs
 simp only at hc hd
 subst hc hd
 refine call_meets PySem.F.slot_list_count ⟨_,ho,rfl⟩ PySem.F.entry_list_count (PySem.F.args_list_count_2 _ _)
  (SeqAt.list_countAt p its.toArray n dd sl (.str k t) (eqs k)) ⟨ho,fun y hy=>(eqs_gives rv y (by simpa using hy)).at _ _,?_⟩
 have ec : its.toArray.toList.countP (eqs k) = ns.count k := eqs_count rv
 refine ⟨.int (ns.count k : Nat),H,I.tok _,⟨s.toks,?_⟩,q⟩
 show Value.int ((its.toArray.toList.countP (eqs k) : Nat) : Int) s.toks = Value.int ((ns.count k : Nat) : Int) s.toks
 rw [ec]
end
end LowX
namespace DL
open PySem PySem.Spec PyProof.Rows L2 SrtK LowX
variable [TabL]
def kindH : HO -> Nat
 | .lst _=>0
 | .dK _=>1
 | .dT _=>2
 | .ins _ _ _=>3
 | .frz _ u=>kindH u
 | _=>9
def D.kd : D -> Nat
 | .lst _=>0
 | .dk _=>1
 | .dt _=>2
 | .ins _ _=>3
 | _=>9
end DL
namespace DL
open PySem PySem.Spec PyProof.Rows L2 SrtK LowX
variable [TabL]
section
variable {K : PySem.W.Frag} {te ta tb tc td ty tv tx tk to : TE} {tt tu : TT} {ts : TA} {t u : TS} {ρ : Env} {E : EndD} {Q : D -> Env -> Prop}
theorem opa_intB {b : Bool} (q : Q (.int (if b then 1 else 0)) ρ) : OpA K (fun xs H Q=>(∃ i,xs = [.int i] /\ Q (.int i) H) \/ ∃ k,xs = [.bl k] /\ Q (.int (if k then 1 else 0)) H) [.bl b] ρ Q := fun F G H σ R vs hv Q' k=>by
 obtain ⟨v,rfl,h⟩ := hv.one
 rw [rep_bl h]
 exact .inr ⟨b,rfl,k _ _ ρ G H (Ex.refl G) R (.int _) q⟩
theorem opa_abs {i : Int} (q : Q (.int (if i < 0 then -i else i)) ρ) : OpA K (fun xs H Q=>∃ i,xs = [.int i] /\ Q (.int (if i < 0 then -i else i)) H) [.int i] ρ Q := fun F G H σ R vs hv Q' k=>by
 obtain ⟨v,rfl,h⟩ := hv.one
 rw [rep_int h]
 exact ⟨i,rfl,k _ _ ρ G H (Ex.refl G) R (.int _) q⟩
theorem ew_count (h : EvW K to ρ fun d ρ1=>∃ ns,d = .lst (strsD ns) /\ EvW K te ρ1 fun y ρ2=>∃ x,y = .str x /\ Q (.int (ns.count x : Nat)) ρ2) : EvW K (tBM K "list" (rCntS K) to (tCons te tNil)) ρ Q := fun F G H σ R Q' k =>
 h F G H σ R _ fun v d ρ1 G1 H1 e1 R1 hv q=>by
  obtain ⟨ns,rfl,q⟩ := q
  obtain ⟨a,vs,rfl,hd,hr⟩ := rep_lst hv
  have e : vs = ns.map V.str := reps_strs hr
  subst e
  refine ⟨.inl ⟨rfl,_,.inl (.inl (R1.wd.g _ _ hd))⟩,q F G1 H1 σ R1 _ fun w y ρ2 G2 H2 e2 R2 hw q2=>?_⟩
  obtain ⟨x,rfl,q2⟩ := q2
  rw [rep_str hw]
  exact ⟨a,ns,x,rfl,rfl,.inl (.inl (R2.wd.g _ _ (e2 _ _ hd))),k _ _ ρ2 G2 H2 (e1.trans e2) R2 (.int _) q2⟩
end
end DL
namespace DL
open PySem PySem.Spec PyProof.Rows L2 SrtK LowX
variable [TabL]
section
variable {K : PySem.W.Frag} {te ta tb tc td ty tv tx tk to : TE} {tt tu : TT} {ts : TA} {t u : TS} {ρ : Env} {E : EndD} {Q : D -> Env -> Prop}
theorem ws_forW {wi : TI} {g : TG} {t : TS} {i : Nat} {d0 : D} {ds : List D} (hi : ρ[i]? = some (.sh d0)) (hd : d0.isDict = true) (W : WalkD K wi i d0 ds) (P : Nat -> Env -> Prop) (p0 : P 0 ρ)
  (turn : ∀ i d ρ',ds[i]? = some d -> P i ρ' -> GW K g d ρ' fun ρ2=>WS K t ρ2 { nx := P (i + 1),rt := fun _ _=>False,bk := P ds.length,ct := P (i + 1) }) (fin : ∀ ρ',P ds.length ρ' -> E.nx ρ') :
  WS K (fun D σ H=>tLock (tFor wi g t) D σ H \/ tFor wi g t D σ H) ρ E := fun F G H σ Dn R L=>by
 obtain ⟨s,hs,v,rfl,hv⟩ := R.sl.get hi
 obtain ⟨a,u,rfl,hu,hcase⟩ := dict_at hv hd
 rcases hcase with ⟨hG,fz⟩ | ⟨od,fz⟩
 ·refine .inl ⟨a,u,R.wd.g _ _ hG,hu.mu,fun od=>?_⟩
  have x := rdx_lockU (od := od) hu hG
  have R1 := R.relock (u' := .frz od u) hG x hu.nt hu.nc
  refine W F _ _ σ ρ a od R1 hs (fz od _ upd_same x) _ fun J Y=>?_
  refine for_core (E := { nx := P ds.length,rt := fun _ _=>False }) R1 Y ⟨fun σ' ρ' G' H' e R' q=>?_,fun v d σ' ρ' G' H' e R' hv q=>q.elim,fun σ' ρ' G' H' e R' q=>q.elim,fun σ' ρ' G' H' e R' q=>q.elim,fun p d σ' ρ' G' H' e R' _ _ _ _ q=>q.elim,fun C f v d dx G' H' _ _ _ _ _ _ q=>q.elim⟩ P p0 turn fun ρ' z=>z
  have hG' := e _ _ (upd_same (H := G) (a := a) (o := .frz od u))
  have x2 := rdx_unlockU hu hG'
  exact ⟨R'.wd.g _ _ hG',L.nx σ' ρ' (upd G' a u) _ (ex_unlock hG e) (R'.relock hG' x2 (fun xs z=>nomatch z) (fun c q z=>by unfold LamX.CodeO at z; cases z)) (fin ρ' q)⟩
 ·refine .inr (W F G H σ ρ a od R hs fz _ fun J Y=>?_)
  exact for_core (E := { nx := P ds.length,rt := fun _ _=>False }) R Y ⟨fun σ' ρ' G' H' e R' q=>L.nx σ' ρ' G' H' e R' (fin ρ' q),fun v d σ' ρ' G' H' e R' hv q=>q.elim,fun σ' ρ' G' H' e R' q=>q.elim,fun σ' ρ' G' H' e R' q=>q.elim,fun p d σ' ρ' G' H' e R' _ _ _ _ q=>q.elim,fun C f v d dx G' H' _ _ _ _ _ _ q=>q.elim⟩ P p0 turn fun ρ' z=>z
end
end DL
namespace DL
open PySem PySem.Spec PyProof.Rows L2 SrtK LowX
section
variable [TabL]
variable {K : PySem.W.Frag} {ρ : Env} {Q : D -> Env -> Prop}
theorem op2_notN {x : D} (q : Q (.bl (!x.isNon)) ρ) : Op2 K (fun x y H Q=>y = .non /\ Q (.bl (!decide (x = .non))) H) x .non ρ Q := fun F G H σ R v w hv hw Q' k=>by
 have e : decide (v = .non) = x.isNon := by
  cases hv <;> first | rfl | (exact decide_eq_false fun z=>nomatch z)
 refine ⟨rep_non hw,?_⟩
 rw [e]
 exact k _ _ ρ G H (Ex.refl G) R (.bl _) q
end
theorem code_of {K : PySem.W.Frag} {x qual : Str} {params : Arguments} {body : List Stmt} {scope : Scope} {fd : FuncData} (F : FunD K x qual params body scope [] [] (He.ga K x) fd) : fd.code = .ref (He.cT K (x,none)).1 := by
 obtain ⟨oc,od,dV,kV,doc,pm,an,cdv,ct,osl,rfl,lk,hcd,_,_⟩ := F.ex
 obtain ⟨c0,rfl⟩ := He.codeIn_ref hcd
 have := He.codeOf_eq (p := (x,none)) lk rfl
 show Value.ref c0 = .ref (He.codeOf K (x,none))
 rw [this]
end DL
set_option maxHeartbeats 0
namespace HD
open PySem PySem.Spec PyProof.Rows L2
def top (i : Nat) : Stmt := PySem.Challenge.pw_seatroads_k65_whole_tables_judged.main.body.getD i (.Pass ⟨0,0,0,0⟩)
def inCls (i j : Nat) : Stmt := match top i with
 | .ClassDef _ _ _ b _ _ _ _ _ _ _=>b.getD j (.Pass ⟨0,0,0,0⟩)
 | _=>.Pass ⟨0,0,0,0⟩
abbrev s__wall : Stmt := (top 0)
def d__wall : He.DefD := ⟨("_wall",none), "_wall", "_wall",defArgs s__wall,defBody s__wall,defScope s__wall,[],[]⟩
abbrev s_is_list : Stmt := (top 10)
def d_is_list : He.DefD := ⟨("is_list",none), "is_list", "is_list",defArgs s_is_list,defBody s_is_list,defScope s_is_list,[],[]⟩
abbrev s_is_name : Stmt := (top 11)
def d_is_name : He.DefD := ⟨("is_name",none), "is_name", "is_name",defArgs s_is_name,defBody s_is_name,defScope s_is_name,[],[]⟩
abbrev s_is_whole : Stmt := (top 12)
def d_is_whole : He.DefD := ⟨("is_whole",none), "is_whole", "is_whole",defArgs s_is_whole,defBody s_is_whole,defScope s_is_whole,[],[]⟩
abbrev s_are_unlike : Stmt := (top 13)
def d_are_unlike : He.DefD := ⟨("are_unlike",none), "are_unlike", "are_unlike",defArgs s_are_unlike,defBody s_are_unlike,defScope s_are_unlike,[],[]⟩
abbrev s_as_tuples : Stmt := (top 14)
def d_as_tuples : He.DefD := ⟨("as_tuples",none), "as_tuples", "as_tuples",defArgs s_as_tuples,defBody s_as_tuples,defScope s_as_tuples,[],[]⟩
abbrev s_are_sorts : Stmt := (top 18)
def d_are_sorts : He.DefD := ⟨("are_sorts",none), "are_sorts", "are_sorts",defArgs s_are_sorts,defBody s_are_sorts,defScope s_are_sorts,[],[]⟩
abbrev s_are_counts : Stmt := (top 19)
def d_are_counts : He.DefD := ⟨("are_counts",none), "are_counts", "are_counts",defArgs s_are_counts,defBody s_are_counts,defScope s_are_counts,[],[]⟩
abbrev s_all_counts : Stmt := (top 20)
def d_all_counts : He.DefD := ⟨("all_counts",none), "all_counts", "all_counts",defArgs s_all_counts,defBody s_all_counts,defScope s_all_counts,[],[]⟩
abbrev s_is_row : Stmt := (top 21)
def d_is_row : He.DefD := ⟨("is_row",none), "is_row", "is_row",defArgs s_is_row,defBody s_is_row,defScope s_is_row,[],[]⟩
abbrev s_are_rows : Stmt := (top 22)
def d_are_rows : He.DefD := ⟨("are_rows",none), "are_rows", "are_rows",defArgs s_are_rows,defBody s_are_rows,defScope s_are_rows,[],[]⟩
abbrev s_is_comer : Stmt := (top 23)
def d_is_comer : He.DefD := ⟨("is_comer",none), "is_comer", "is_comer",defArgs s_is_comer,defBody s_is_comer,defScope s_is_comer,[],[]⟩
abbrev s_are_comers : Stmt := (top 24)
def d_are_comers : He.DefD := ⟨("are_comers",none), "are_comers", "are_comers",defArgs s_are_comers,defBody s_are_comers,defScope s_are_comers,[],[]⟩
abbrev s_is_book : Stmt := (top 25)
def d_is_book : He.DefD := ⟨("is_book",none), "is_book", "is_book",defArgs s_is_book,defBody s_is_book,defScope s_is_book,[],[]⟩
abbrev s_added : Stmt := (top 26)
def d_added : He.DefD := ⟨("added",none), "added", "added",defArgs s_added,defBody s_added,defScope s_added,[],[]⟩
abbrev s_less : Stmt := (top 27)
def d_less : He.DefD := ⟨("less",none), "less", "less",defArgs s_less,defBody s_less,defScope s_less,[],[]⟩
abbrev s_Table___init__ : Stmt := (inCls 28 0)
def d_Table___init__ : He.DefD := ⟨("Table",some "__init__"), "__init__", "Table.__init__",defArgs s_Table___init__,defBody s_Table___init__,defScope s_Table___init__,[],[]⟩
abbrev s_Table_comers : Stmt := (inCls 28 1)
def d_Table_comers : He.DefD := ⟨("Table",some "comers"), "comers", "Table.comers",defArgs s_Table_comers,defBody s_Table_comers,defScope s_Table_comers,[],[]⟩
abbrev s_Table_row : Stmt := (inCls 28 2)
def d_Table_row : He.DefD := ⟨("Table",some "row"), "row", "Table.row",defArgs s_Table_row,defBody s_Table_row,defScope s_Table_row,[],[]⟩
abbrev s_Table_check_book : Stmt := (inCls 28 3)
def d_Table_check_book : He.DefD := ⟨("Table",some "check_book"), "check_book", "Table.check_book",defArgs s_Table_check_book,defBody s_Table_check_book,defScope s_Table_check_book,[],[]⟩
abbrev s_Table_after : Stmt := (inCls 28 4)
def d_Table_after : He.DefD := ⟨("Table",some "after"), "after", "Table.after",defArgs s_Table_after,defBody s_Table_after,defScope s_Table_after,[],[]⟩
abbrev s_Table_after_all : Stmt := (inCls 28 5)
def d_Table_after_all : He.DefD := ⟨("Table",some "after_all"), "after_all", "Table.after_all",defArgs s_Table_after_all,defBody s_Table_after_all,defScope s_Table_after_all,[],[]⟩
abbrev s_Table___eq__ : Stmt := (inCls 28 6)
def d_Table___eq__ : He.DefD := ⟨("Table",some "__eq__"), "__eq__", "Table.__eq__",defArgs s_Table___eq__,defBody s_Table___eq__,defScope s_Table___eq__,[],[]⟩
abbrev s_apart : Stmt := (top 29)
def d_apart : He.DefD := ⟨("apart",none), "apart", "apart",defArgs s_apart,defBody s_apart,defScope s_apart,[],[]⟩
abbrev s_one_of : Stmt := (top 30)
def d_one_of : He.DefD := ⟨("one_of",none), "one_of", "one_of",defArgs s_one_of,defBody s_one_of,defScope s_one_of,[],[]⟩
abbrev s_none_of : Stmt := (top 31)
def d_none_of : He.DefD := ⟨("none_of",none), "none_of", "none_of",defArgs s_none_of,defBody s_none_of,defScope s_none_of,[],[]⟩
abbrev s_Fault___init__ : Stmt := (inCls 33 0)
def d_Fault___init__ : He.DefD := ⟨("Fault",some "__init__"), "__init__", "Fault.__init__",defArgs s_Fault___init__,defBody s_Fault___init__,defScope s_Fault___init__,[],[]⟩
abbrev s_higher_book : Stmt := (top 34)
def d_higher_book : He.DefD := ⟨("higher_book",none), "higher_book", "higher_book",defArgs s_higher_book,defBody s_higher_book,defScope s_higher_book,[],[]⟩
abbrev s_is_near : Stmt := (top 35)
def d_is_near : He.DefD := ⟨("is_near",none), "is_near", "is_near",defArgs s_is_near,defBody s_is_near,defScope s_is_near,[],[]⟩
abbrev s_cases_of : Stmt := (top 36)
def d_cases_of : He.DefD := ⟨("cases_of",none), "cases_of", "cases_of",defArgs s_cases_of,defBody s_cases_of,defScope s_cases_of,[],[]⟩
abbrev s_judged : Stmt := (top 37)
def d_judged : He.DefD := ⟨("judged",none), "judged", "judged",defArgs s_judged,defBody s_judged,defScope s_judged,[],[]⟩
abbrev s__law_stream : Stmt := (top 39)
def d__law_stream : He.DefD := ⟨("_law_stream",none), "_law_stream", "_law_stream",defArgs s__law_stream,defBody s__law_stream,defScope s__law_stream,[],[]⟩
abbrev s__law_draw : Stmt := (top 40)
def d__law_draw : He.DefD := ⟨("_law_draw",none), "_law_draw", "_law_draw",defArgs s__law_draw,defBody s__law_draw,defScope s__law_draw,[],[]⟩
abbrev s__law_pick : Stmt := (top 41)
def d__law_pick : He.DefD := ⟨("_law_pick",none), "_law_pick", "_law_pick",defArgs s__law_pick,defBody s__law_pick,defScope s__law_pick,[],[]⟩
abbrev s__law_tuples : Stmt := (top 42)
def d__law_tuples : He.DefD := ⟨("_law_tuples",none), "_law_tuples", "_law_tuples",defArgs s__law_tuples,defBody s__law_tuples,defScope s__law_tuples,[],[]⟩
abbrev s__law_sides : Stmt := (top 43)
def d__law_sides : He.DefD := ⟨("_law_sides",none), "_law_sides", "_law_sides",defArgs s__law_sides,defBody s__law_sides,defScope s__law_sides,[],[]⟩
abbrev s__law_one : Stmt := (top 44)
def d__law_one : He.DefD := ⟨("_law_one",none), "_law_one", "_law_one",defArgs s__law_one,defBody s__law_one,defScope s__law_one,[],[]⟩
abbrev s__law_listed : Stmt := (top 45)
def d__law_listed : He.DefD := ⟨("_law_listed",none), "_law_listed", "_law_listed",defArgs s__law_listed,defBody s__law_listed,defScope s__law_listed,[],[]⟩
abbrev s__law_mix : Stmt := (top 46)
def d__law_mix : He.DefD := ⟨("_law_mix",none), "_law_mix", "_law_mix",defArgs s__law_mix,defBody s__law_mix,defScope s__law_mix,[],[]⟩
abbrev s__law_drawn : Stmt := (top 47)
def d__law_drawn : He.DefD := ⟨("_law_drawn",none), "_law_drawn", "_law_drawn",defArgs s__law_drawn,defBody s__law_drawn,defScope s__law_drawn,[],[]⟩
abbrev s__law_bent : Stmt := (top 48)
def d__law_bent : He.DefD := ⟨("_law_bent",none), "_law_bent", "_law_bent",defArgs s__law_bent,defBody s__law_bent,defScope s__law_bent,[],[]⟩
abbrev s__law_made : Stmt := (top 49)
def d__law_made : He.DefD := ⟨("_law_made",none), "_law_made", "_law_made",defArgs s__law_made,defBody s__law_made,defScope s__law_made,[],[]⟩
abbrev s__law_after : Stmt := (top 50)
def d__law_after : He.DefD := ⟨("_law_after",none), "_law_after", "_law_after",defArgs s__law_after,defBody s__law_after,defScope s__law_after,[],[]⟩
abbrev s__law_higher : Stmt := (top 51)
def d__law_higher : He.DefD := ⟨("_law_higher",none), "_law_higher", "_law_higher",defArgs s__law_higher,defBody s__law_higher,defScope s__law_higher,[],[]⟩
abbrev s__law_tokens : Stmt := (top 52)
def d__law_tokens : He.DefD := ⟨("_law_tokens",none), "_law_tokens", "_law_tokens",defArgs s__law_tokens,defBody s__law_tokens,defScope s__law_tokens,[],[]⟩
abbrev s__law_is_near : Stmt := (top 53)
def d__law_is_near : He.DefD := ⟨("_law_is_near",none), "_law_is_near", "_law_is_near",defArgs s__law_is_near,defBody s__law_is_near,defScope s__law_is_near,[],[]⟩
abbrev s__law_parts : Stmt := (top 54)
def d__law_parts : He.DefD := ⟨("_law_parts",none), "_law_parts", "_law_parts",defArgs s__law_parts,defBody s__law_parts,defScope s__law_parts,[],[]⟩
abbrev s__law_fewest : Stmt := (top 55)
def d__law_fewest : He.DefD := ⟨("_law_fewest",none), "_law_fewest", "_law_fewest",defArgs s__law_fewest,defBody s__law_fewest,defScope s__law_fewest,[],[]⟩
abbrev s__law_never_farther : Stmt := (top 56)
def d__law_never_farther : He.DefD := ⟨("_law_never_farther",none), "_law_never_farther", "_law_never_farther",defArgs s__law_never_farther,defBody s__law_never_farther,defScope s__law_never_farther,[],[]⟩
abbrev s_law : Stmt := (top 57)
def d_law : He.DefD := ⟨("law",none), "law", "law",defArgs s_law,defBody s_law,defScope s_law,[],[]⟩
def fn : List He.DefD := [d__wall,d_is_list,d_is_name,d_is_whole,d_are_unlike,d_as_tuples,d_are_sorts,d_are_counts,d_all_counts,d_is_row,d_are_rows,d_is_comer,d_are_comers,d_is_book,d_added,d_less,d_Table___init__,d_Table_comers,d_Table_row,d_Table_check_book,d_Table_after,d_Table_after_all,d_Table___eq__,d_apart,d_one_of,d_none_of,d_Fault___init__,d_higher_book,d_is_near,d_cases_of,d_judged,d__law_stream,d__law_draw,d__law_pick,d__law_tuples,d__law_sides,d__law_one,d__law_listed,d__law_mix,d__law_drawn,d__law_bent,d__law_made,d__law_after,d__law_higher,d__law_tokens,d__law_is_near,d__law_parts,d__law_fewest,d__law_never_farther,d_law]
def fa : List He.Fa := [.glo "_wall",
 .glo "is_list",
 .glo "is_name",
 .glo "is_whole",
 .glo "are_unlike",
 .glo "as_tuples",
 .glo "are_sorts",
 .glo "are_counts",
 .glo "all_counts",
 .glo "is_row",
 .glo "are_rows",
 .glo "is_comer",
 .glo "are_comers",
 .glo "is_book",
 .glo "added",
 .glo "less",
 .glo "apart",
 .glo "one_of",
 .glo "none_of",
 .glo "higher_book",
 .glo "is_near",
 .glo "cases_of",
 .glo "judged",
 .glo "_law_stream",
 .glo "_law_draw",
 .glo "_law_pick",
 .glo "_law_tuples",
 .glo "_law_sides",
 .glo "_law_one",
 .glo "_law_listed",
 .glo "_law_mix",
 .glo "_law_drawn",
 .glo "_law_bent",
 .glo "_law_made",
 .glo "_law_after",
 .glo "_law_higher",
 .glo "_law_tokens",
 .glo "_law_is_near",
 .glo "_law_parts",
 .glo "_law_fewest",
 .glo "_law_never_farther",
 .glo "law",
 .glo "OfficeError",
 .glo "BadTable",
 .glo "BadComer",
 .glo "BadCounts",
 .glo "BadBook",
 .glo "Table",
 .glo "Fault",
 .free "ValueError",
 .free "abs",
 .free "all",
 .free "any",
 .free "bool",
 .free "dict",
 .free "enumerate",
 .free "int",
 .free "isinstance",
 .free "len",
 .free "list",
 .free "min",
 .free "range",
 .free "sorted",
 .free "str",
 .free "sum",
 .free "super",
 .free "tuple",
 .free "zip",
 .str "SIGNS" "abcdefghijklmnopqrstuvwxyz0123456789",
 .int "LONGEST" 8,
 .glo "SIDES",
 .int "DEEPEST" 3,
 .cls "Table",
 .mkr "Table",
 .meth "Table" "comers",
 .meth "Table" "row",
 .meth "Table" "check_book",
 .meth "Table" "after",
 .meth "Table" "after_all",
 .noat "Table" "by_comer",
 .noat "Table" "depth",
 .noat "Table" "frees",
 .noat "Table" "waits",
 .cls "Fault",
 .mkr "Fault",
 .noat "Fault" "book",
 .noat "Fault" "comer",
 .noat "Fault" "token"]
def ex (K : PySem.W.Frag) : Bool := He.tupB K "SIDES" [.str "person",.str "place"] && (EXS.supB K PySem.Challenge.pw_seatroads_k65_whole_tables_judged "BadTable" "part" "part" && (xfB K (He.ga K "BadTable") && (decide (PySem.W.exmOne K (.ref (He.ga K "BadTable")) (.ref (He.ga K "BadTable")) = some true) && (He.eqO (PySem.W.findIn K (.ref (He.ga K "BadTable")) "part") (some none) && (EXS.supB K PySem.Challenge.pw_seatroads_k65_whole_tables_judged "BadComer" "comer" "comer" && (xfB K (He.ga K "BadComer") && (decide (PySem.W.exmOne K (.ref (He.ga K "BadComer")) (.ref (He.ga K "BadComer")) = some true) && (He.eqO (PySem.W.findIn K (.ref (He.ga K "BadComer")) "comer") (some none) && (EXS.supB K PySem.Challenge.pw_seatroads_k65_whole_tables_judged "BadCounts" "counts" "counts" && (xfB K (He.ga K "BadCounts") && (decide (PySem.W.exmOne K (.ref (He.ga K "BadCounts")) (.ref (He.ga K "BadCounts")) = some true) && (He.eqO (PySem.W.findIn K (.ref (He.ga K "BadCounts")) "counts") (some none) && (EXS.supB K PySem.Challenge.pw_seatroads_k65_whole_tables_judged "BadBook" "book" "book" && (xfB K (He.ga K "BadBook") && (decide (PySem.W.exmOne K (.ref (He.ga K "BadBook")) (.ref (He.ga K "BadBook")) = some true) && (He.eqO (PySem.W.findIn K (.ref (He.ga K "BadBook")) "book") (some none)))))))))))))))))
def loose : List Str := (["_wall", "__name__", "OfficeError", "BadTable", "BadComer", "BadCounts", "BadBook", "SIGNS", "LONGEST", "is_list", "is_name", "is_whole", "are_unlike", "as_tuples", "SIDES", "DEEPEST", "are_sorts", "are_counts", "all_counts", "is_row", "are_rows", "is_comer", "are_comers", "is_book", "added", "less", "Table", "apart", "one_of", "none_of"] : List Str) ++ (["Fault", "higher_book", "is_near", "cases_of", "judged", "_law_stream", "_law_draw", "_law_pick", "_law_tuples", "_law_sides", "_law_one", "_law_listed", "_law_mix", "_law_drawn", "_law_bent", "_law_made", "_law_after", "_law_higher", "_law_tokens", "_law_is_near", "_law_parts", "_law_fewest", "_law_never_farther"] : List Str)
def tf : List He.Defn := [("cases_of",none)]
abbrev R : PySem.W.OpenRow := PySem.W.OpenLaw.row PySem.Challenge.rw_seatroads_k65_whole_tables_judged
abbrev hk : PySem.W.Hook := He.hookXS 4 fa fn tf ex
def ob (s : PySem.W.SharedT) : He.AlX := He.obsXS 4 fa fn tf ex (HandSHeadRun.getT s)
theorem ob_eq (s : PySem.W.SharedT) : ob s = hk.obs s.abs := He.obsXS_eq (HandSHeadRun.getT_eq s)
theorem run (w : World) : HandSHeadRun.RunEq R (PySem.W.view R.prog [57]) hk ob 12000 loose w := by
 intro os
 kernel_rfl
end HD
set_option maxHeartbeats 4000000
namespace SG
open PySem PySem.Spec PyProof.Rows L2
abbrev KK := List Key
abbrev hK (P : Program) (w : World) (k : KK) : Int := tupleKeyHash (mixKind P w) k
abbrev At (P : Program) (w : World) (h : Heap) (k : KK) (b : Addr) : Prop := IsTupleKey (mixKind P w) h k b
end SG
namespace SG
open PySem PySem.Spec PyProof.Rows L2
abbrev EL := List (Addr × KK)
def ents (P : Program) (w : World) (L : EL) : List (Int × Value) := L.map fun e=>(hK P w e.2,Value.ref e.1)
abbrev hks (P : Program) (w : World) (L : EL) : List Int := L.map fun e=>hK P w e.2
structure Sk (P : Program) (w : World) (h : Heap) (a : Addr) (L : EL) (es : Array (Int × Value)) (ep : Nat) (t : SetTable) : Prop where
 obj : ∃ o,h.get? a = some o /\ o.ExactSet /\ o.data = .set es ep t
 row : es.toList = ents P w L
 tab : TabOk t (hks P w L)
 uni : (L.map (·.2)).Nodup
 tup : ∀ e ∈ L,At P w h e.2 e.1
 led : w.params.followText "set-order" = true \/ t.led = true
 spc : L.length * 5 < t.mask * 3
 few : L.length < 64
end SG
namespace SG
open PySem PySem.Spec PyProof.Rows L2
section
variable {P : Program} {w : World} {A : Around} {E : Value -> Shared -> Prop} {s : Shared} {a : Addr} {L : EL} {es : Array (Int × Value)} {ep : Nat} {t : SetTable}
theorem At.same {h h' : Heap} {k : KK} {b : Addr} {ob : Obj} (q : At P w h k b) (e1 : h.get? a = some ob) (e2 : ob.data = .set es ep t) (sb : Heap.SameBut a h h') : At P w h' k b := by
 obtain ⟨o2,its,c,g1,g2,g3,g4⟩ := q
 refine ⟨o2,its,c,(sb.2 b ?_).trans g1,g2,g3,g4⟩
 intro z
 rw [z,e1] at g1
 rw [<- Option.some.inj g1,e2] at g3
 cases g3
theorem At.keep {h h' : Heap} {k : KK} {b : Addr} (q : At P w h k b) (kp : ∀ c o,h.get? c = some o -> h'.get? c = some o) : At P w h' k b := by
 obtain ⟨o2,its,c,g1,g2⟩ := q
 exact ⟨o2,its,c,kp _ _ g1,g2⟩
def Grown (L : EL) (x : Addr) (k : KK) (L' : EL) : Prop := (k ∈ L.map (·.2) /\ L' = L) \/ (k ∉ L.map (·.2) /\ L'.Perm ((x,k) :: L))
end
end SG
namespace SG
open PySem PySem.Spec PyProof.Rows L2
structure Have (ks : EL) (i : Nat) (L : EL) : Prop where
 sub : ∀ e ∈ L,e ∈ ks.take i
 all : ∀ e ∈ ks.take i,e.2 ∈ L.map (·.2)
 len : L.length <= i
theorem Have.start (ks : EL) : Have ks 0 [] := ⟨fun _ z=>(nomatch z),fun _ z=>(by simp at z),Nat.le_refl _⟩
theorem Have.next {ks L L2 : EL} {i : Nat} {x : Addr × KK} (g : Have ks i L) (h : ks[i]? = some x) (gr : Grown L x.1 x.2 L2) : Have ks (i + 1) L2 := by
 have tk : ks.take (i + 1) = ks.take i ++ [x] := by rw [List.take_succ,h]; rfl
 rcases gr with ⟨m,rfl⟩ | ⟨m,pm⟩
 ·refine ⟨fun e me=>?_,fun e me=>?_,Nat.le_succ_of_le g.len⟩
  ·rw [tk]; exact List.mem_append_left _ (g.sub e me)
  ·rw [tk] at me
   rcases List.mem_append.mp me with z | z
   ·exact g.all e z
   ·rw [List.mem_singleton.mp z]; exact m
 ·refine ⟨fun e me=>?_,fun e me=>?_,by rw [pm.length_eq]; exact Nat.succ_le_succ g.len⟩
  ·rw [tk]
   rcases List.mem_cons.mp (pm.mem_iff.mp me) with z | z
   ·rw [z]; exact List.mem_append_right _ List.mem_cons_self
   ·exact List.mem_append_left _ (g.sub e z)
  ·refine (pm.map (·.2)).mem_iff.mpr ?_
   rw [tk] at me
   rcases List.mem_append.mp me with z | z
   ·exact List.mem_cons_of_mem _ (g.all e z)
   ·rw [List.mem_singleton.mp z]; exact List.mem_cons_self
section
variable {P : Program} {w : World} {A : Around} {E : Value -> Shared -> Prop} {s : Shared}
theorem Sk.stay {h h' : Heap} {a : Addr} {L : EL} {es : Array (Int × Value)} {ep : Nat} {t : SetTable} (S : Sk P w h a L es ep t) (ka : ∀ o,h.get? a = some o -> h'.get? a = some o) (kt : ∀ e ∈ L,At P w h' e.2 e.1) : Sk P w h' a L es ep t := by
 obtain ⟨o,z,r⟩ := S.obj
 exact ⟨⟨o,ka o z,r⟩,S.row,S.tab,S.uni,kt,S.led,S.spc,S.few⟩
end
end SG
namespace DL
open PySem PySem.Spec PyProof.Rows L2 SrtK LowX
variable [TabL]
section
variable {K : PySem.W.Frag} {te ta tb : TE} {ts : TA} {ρ : Env} {Q : D -> Env -> Prop} {W : XK} {X : Str -> Str -> D -> Prop}
theorem dput_app {κ : Type} [DecidableEq κ] {ps : List (κ × D)} {k : κ} {d : D} (h : k ∉ ps.map (·.1)) : dput ps k d = ps ++ [(k,d)] := by
 unfold dput
 rw [if_neg]
 rw [List.any_eq_true]
 rintro ⟨p,hp,e⟩
 exact h (List.mem_map.mpr ⟨p,hp,of_decide_eq_true e⟩)
end
end DL
namespace DL
open PySem PySem.Spec PyProof.Rows L2 SrtK LowX
variable [TabL]
section
variable {K : PySem.W.Frag} {te ta tb : TE} {ts : TA} {ρ : Env} {Q : D -> Env -> Prop} {E : EndD}
theorem ws_lset {i : Nat} {a : Addr} {j : Nat} (h : EvW K te ρ fun d ρ1=>∃ ds,ρ1[i]? = some (.own a (.lst ds)) /\ j < ds.length /\ E.nx (ρ1.set i (.own a (.lst (ds.set j d))))) : WS K (tAsg te (gSub (tVar i) (tC (.int (j : Nat))) rSetL)) ρ E := fun F G H σ Dn R L =>
 h F G H σ R _ fun v d ρ1 G1 H1 e1 R1 hv q=>by
  obtain ⟨ds,hi1,hj,q⟩ := q
  obtain ⟨s,hs,rfl,hG,hF,vs,hd,hr⟩ := R1.sl.get hi1
  have hl := hr.length
  refine ⟨.ref a,hs,a,vs,(j : Nat),j,rfl,rfl,hd,?_,?_⟩
  ·unfold ixN
   simp only [Int.toNat_natCast]
   rw [if_pos (by omega)]
   rw [if_pos (by omega)]
  ·exact L.nx _ _ G1 _ e1 (R1.mut (r' := .own a (.lst (ds.set j d))) hi1 (List.mem_singleton.mpr rfl) (List.Sublist.refl _) hs ⟨rfl,hG,hF,_,upd_same,hr.set hv j⟩) q
end
end DL
namespace DL
open PySem PySem.Spec PyProof.Rows L2 SrtK LowX
variable [TabL]
theorem er_ow {s : Sl} {d : D} (h : s.isArg = true) (e : s.er = .ow d) : ∃ a,s = .own a d := by
 cases s with
 | own a d'=>unfold Sl.er at e; cases e; exact ⟨a,rfl⟩
 | sh d'=>unfold Sl.er at e; cases e
 | drw a=>unfold Sl.er at e; cases e
 | _=>cases h
theorem er_s {s : Sl} {d : D} (h : s.isArg = true) (e : s.er = .sh d) : s = .sh d := by
 cases s with
 | own a d'=>unfold Sl.er at e; cases e
 | sh d'=>unfold Sl.er at e; cases e; rfl
 | drw a=>unfold Sl.er at e; cases e
 | _=>cases h
end DL
namespace DL
open PySem PySem.Spec PyProof.Rows L2 SrtK LowX
variable [TabL]
abbrev TUp := List Ag -> (RV -> List Ag -> Prop) -> (Str -> Str -> D -> Prop) -> Prop
section
variable {K : PySem.W.Frag} {te ta tb tc td ty tv tx tk : TE} {tt tu : TT} {ts : TA} {t u : TS} {ρ : Env} {E : EndD} {W : XK} {T : TVp} {c : Nat}
theorem ew_callVU {T' : TUp} (hT : ∀ ags Q X,TV c T ags Q X -> T' ags Q X) {i : Nat} {a : Addr} {p : P3} {Q : D -> Env -> Prop} (n : Nat) (hi : ρ[i]? = some (.own a (stD p))) (h : EvA K ts ρ fun ds ρ1=>∃ p1,ρ1[i]? = some (.own a (stD p1)) /\ Bud (n + c) p1 /\ T ds fun d=>∀ p',Bud n p' -> Q d (ρ1.set i (.own a (stD p')))) : EvW K (tCall (spU K T') [] W (tCons (tVar i) ts)) ρ Q := by
 refine ew_rv<|er_of<|xr_callU<|eg_ow hi rfl<|eg_ea fun F G H σ R Q' k=>h F G H σ R Q' fun vs ds ρ' G' H' e R' hv q=>k vs ds ρ' G' H' e R' hv ?_
 obtain ⟨p1,h1,hb,q⟩ := q
 refine ⟨.own a (stD p1) :: ds.map Sl.sh,?_,?_,hT _ _ _ ⟨p1,n,ds,?_,hb,?_⟩⟩
 ·unfold lent
  rw [h1,lent_d]; rfl
 ·show (i :: idx (ds.map Ar.d)).Nodup
  rw [idx_d]; simp
 ·show Sl.er _ :: (ds.map Sl.sh).map Sl.er = _
  rw [er_map]; rfl
 ·have key : ∀ (d : D) (p' : P3),putB ρ' (.s i :: ds.map Ar.d) (.ow (stD p') :: ds.map Ag.sh) = ρ'.set i (.own a (stD p')) := fun d p'=>by
   show putB (match ρ'[i]? with | some r=>ρ'.set i (upS r (.ow (stD p'))) | none=>ρ') (ds.map Ar.d) _ = _
   rw [h1,putB_sh]; rfl
  refine cast ?_ q
  congr 1
  funext d
  refine propext ⟨fun z p' hb'=>?_,fun z p' hb'=>?_⟩
  ·show Q d (putB ρ' (.s i :: ds.map Ar.d) _)
   rw [key d p']; exact z p' hb'
  ·have := z p' hb'
   have this : Q d (putB ρ' (.s i :: ds.map Ar.d) (.ow (stD p') :: ds.map Ag.sh)) := this
   rw [key d p'] at this
   exact this
theorem ags2 {ags : Env} {g1 g2 : Ag} (h : ags.map Sl.er = [g1,g2]) : ∃ s1 s2,ags = [s1,s2] /\ s1.er = g1 /\ s2.er = g2 := by
 match ags,h with
 | [s1,s2],h =>
  simp only [List.map_cons,List.map_nil,List.cons.injEq,and_true] at h
  exact ⟨s1,s2,rfl,h.1,h.2⟩
end
end DL
namespace SG
open PySem PySem.Spec PyProof.Rows L2 SrtK
def S0 (P : Program) (w : World) (h : Heap) (a : Addr) (L : EL) : Prop := ∃ (es : Array (Int × Value)) (ep : Nat) (t : SetTable),(∃ o,h.get? a = some o /\ o.ExactSet /\ o.data = .set es ep t) /\ es.toList = ents P w L /\ TabOk t (hks P w L) /\ (L.map (·.2)).Nodup ∧
 (w.params.followText "set-order" = true \/ t.led = true) /\ L.length * 5 < t.mask * 3 /\ L.length < 64
end SG
namespace SG
open PySem PySem.Spec PyProof.Rows L2
section
variable {P : Program} {w : World} {κ : Type} [DecidableEq κ] {kd : HeapKind P w κ} {A : Around} {E : Value -> Shared -> Prop} {s : Shared}
abbrev prs (xs : List (κ × Addr × Value)) : List (κ × Value) := pairsH xs
theorem same_pairs {nm : String} {a b : Addr} {xa xb : List (κ × Addr × Value)} {r : Bool} {Q : Bool -> Shared -> Prop} (na : (a == sysModules) = false) (nb : (b == sysModules) = false) (rm : kd.room A)
  (da : s.heap.DictOfH kd a xa) (db : s.heap.DictOfH kd b xb) (hits : xa.length = xb.length -> PySem.W.KeqHits A s (prs xb) (prs xa) r) (q : Q (xa.length == xb.length && r) s) :
  wpAny (model P w) A (Builtin.Dict.samePairs nm a b) Q E s := by
 obtain ⟨oa,ea,pa,ga,_,ta,la,ia,_⟩ := da
 obtain ⟨ob,eb,pb,gb,xB,tb,lb,ib,ub⟩ := db
 have za := size_of_entries la
 have zb := size_of_entries lb
 rw [<- za,<- zb] at q
 unfold Builtin.Dict.samePairs Builtin.Dict.showsAll
 rw [if_neg (by rw [na]; exact Bool.false_ne_true),if_neg (by rw [nb]; exact Bool.false_ne_true)]
 refine wpAny_bind (wpAny_pure (wpAny_bind (wpAny_pure (wpAny_bind (wpAny_dictEntries ga ta ?_)))))
 dsimp only
 refine wpAny_bind (wpAny_dictEntries gb tb ?_)
 by_cases sz : ea.size = eb.size
 case neg =>
  rw [if_pos (by simpa using sz)]
  rw [show (ea.size == eb.size) = false by simpa using sz,Bool.false_and] at q
  exact wpAny_bind (wpAny_rule (wpAny_pure q))
 case pos =>
  have q2 : Q r s := by simpa [sz] using q
  have h2 := hits (by rw [<- za,<- zb]; exact sz)
  rw [if_neg (by rw [sz]; simp)]
  refine wpAny_bind (wpAny_dictEpoch ga ta (wpAny_bind ?_))
  rw [Std.Legacy.Range.forIn_eq_forIn_range']
  simp only [Std.Legacy.Range.size,Nat.sub_zero,Nat.add_sub_cancel,Nat.div_one]
  refine wpAny_forIn_list _ (fun left st z=>z = s /\ st = (none,()) /\ ∃ i,left = List.range' i (ea.size - i) /\ i <= ea.size /\ PySem.W.KeqHits A s (prs xb) ((prs xa).drop i) r) _ ?_ ?_ _ _ ⟨rfl,rfl,0,by simp,Nat.zero_le _,h2⟩
  ·rintro y left st z ⟨rfl,rfl,i,hr,hi,pre⟩
   have lt : i < ea.size := by
    by_cases c : i < ea.size
    ·exact c
    ·rw [Nat.sub_eq_zero_of_le (Nat.le_of_not_lt c)] at hr; simp at hr
   obtain ⟨rfl,hleft⟩ : y = i /\ left = List.range' (i + 1) (ea.size - (i + 1)) := by
    rw [show ea.size - i = (ea.size - (i + 1)) + 1 by omega,List.range'_succ] at hr
    injection hr with h1 h2
    exact ⟨h1,h2⟩
   have ly : y < xa.length := by rw [<- za]; exact lt
   obtain ⟨x,hx⟩ : ∃ x,xa[y]? = some x := ⟨_,List.getElem?_eq_getElem ly⟩
   have ey : ea[y]? = some (entryOfKey kd x) := by rw [entry_at la,hx]; rfl
   have hd : (prs xa).drop y = (x.1,x.2.2) :: (prs xa).drop (y + 1) := by
    have z : (prs xa)[y]? = some (x.1,x.2.2) := by unfold prs pairsH; rw [List.getElem?_map,hx]; rfl
    obtain ⟨l1,l2⟩ := List.getElem?_eq_some_iff.mp z
    rw [<- l2]; exact List.drop_eq_getElem_cons l1
   rw [hd] at pre
   refine wpAny_bind (wpAny_dictEntries ga ta ?_)
   rw [ey]
   show wpAny _ _ (holding [Value.ref x.2.1,x.2.2] _ >>= _) _ _ _
   refine wpAny_bind (wpAny_holding (wpAny_bind (wpAny_dictFind_heap rm (ia x (List.mem_of_getElem? hx)) gb tb lb ib ub (fun hn=>?_) fun j p hj=>?_)))
   ·have vn : valueAt (prs xb) x.1 = none := by rw [valueAt_pairsH,atKey_none_of_get hn]; rfl
    rcases pre.inv with ⟨_,er⟩ | ⟨u,_,_,hu,_⟩
    ·rw [er] at q2
     refine wpAny_pure ?_
     show wpAny _ _ (if (!false) = true then _ else _) _ _ _
     rw [if_pos (by decide)]
     exact wpAny_pure (wpAny_pure q2)
    ·rw [vn] at hu; exact nomatch hu
   ·have vs : valueAt (prs xb) x.1 = some p.2 := by rw [valueAt_pairsH,atKey_of_get ub hj]; rfl
    have ej : eb[j]? = some (entryOfKey kd (x.1,p)) := by rw [entry_at lb,hj]; rfl
    refine wpAny_bind (wpAny_dictEntries gb tb ?_)
    rw [ej]
    rcases pre.inv with ⟨hn,_⟩ | ⟨u,e,c,hu,he,more,er⟩
    ·rw [vs] at hn; exact nomatch hn
    ·have eu : p.2 = u := Option.some.inj (vs.symm.trans hu)
     rw [<- eu] at he
     refine wpAny_holding (he P w _ _ ?_)
     cases e with
     | false =>
      rw [er,Bool.false_and] at q2
      show wpAny _ _ (if (!false) = true then _ else _) _ _ _
      rw [if_pos (by decide)]
      exact wpAny_pure (wpAny_pure q2)
     | true =>
      rw [Bool.true_and] at er
      rw [<- er] at more
      show wpAny _ _ (if (!true) = true then _ else _) _ _ _
      rw [if_neg (by decide)]
      refine wpAny_bind (wpAny_dictEpoch ga ta ?_)
      rw [if_neg (by simp)]
      exact wpAny_pure ⟨rfl,rfl,y + 1,hleft,lt,more⟩
  ·rintro st z ⟨rfl,rfl,i,hr,hi,pre⟩
   have hin : i = ea.size := by
    by_cases c : i < ea.size
    ·rw [show ea.size - i = (ea.size - (i + 1)) + 1 by omega,List.range'_succ] at hr
     exact nomatch hr
    ·omega
   refine wpAny_pure ?_
   rw [hin,za,show xa.length = (prs xa).length from (pairsH_length xa).symm,List.drop_length] at pre
   cases pre
   exact q2
end
end SG
namespace SG
open PySem PySem.Spec PyProof.Rows L2
section
variable {P : Program} {w : World} {κ : Type} [DecidableEq κ] {kd : HeapKind P w κ} {A : Around} {E : Value -> Shared -> Prop} {s : Shared}
theorem dict_eqs {neg : Bool} {a b : Addr} {xa xb : List (κ × Addr × Value)} {r : Bool} {Q : Value -> Shared -> Prop} (na : (a == sysModules) = false) (nb : (b == sysModules) = false) (un : A.units < cLine) (rm : kd.room A.in1)
  (da : s.heap.DictOfH kd a xa) (db : s.heap.DictOfH kd b xb) (hits : xa.length = xb.length -> PySem.W.KeqHits A.in1 s (prs xb) (prs xa) r) (q : Q (.bool (if neg then !(xa.length == xb.length && r) else xa.length == xb.length && r)) s) :
  wpAny (model P w) A (compareOp (if neg then .NotEq else .Eq) (.ref a) (.ref b)) Q E s := by
 have same : ∀ {nm : String} {Q2 : Bool -> Shared -> Prop},Q2 (xa.length == xb.length && r) s -> wpAny (model P w) A.in1 (Builtin.Dict.samePairs nm a b) Q2 E s := fun h=>same_pairs na nb rm da db hits h
 cases neg with
 | false =>
  refine wpAny_richCompare_same_room (op := .Eq) da.typeIs db.typeIs PySem.F.slot_dict_eq (wpAny_call_entry PySem.F.slot_dict_eq da.typeIs PySem.F.entry_dict_eq ?_ (PySem.F.args_dict_eq_2 _ _)) un
  show wpAny _ _ (Builtin.Dict.dictSlotArgs "__eq__" ⟨[.ref a,.ref b],[]⟩ >>= _) _ _ s
  unfold Builtin.Dict.dictSlotArgs
  refine wpAny_bind (wpAny_bind (wpAny_notOrdered_dict da.typeIs (wpAny_pure ?_)))
  refine wpAny_bind (wpAny_isInstance (T := "dict") db.typeIs PySem.F.sub_dict_dict ?_)
  simp only [Bool.not_true,Bool.false_eq_true,if_false]
  refine wpAny_bind (wpAny_pure (wpAny_bind (wpAny_pure (wpAny_bind (same (wpAny_pure ⟨_,rfl,(fun x=>nomatch x),?_⟩))))))
  simpa using q
 | true =>
  refine wpAny_richCompare_same_room (op := .NotEq) da.typeIs db.typeIs PySem.F.slot_dict_ne (wpAny_call_entry PySem.F.slot_dict_ne da.typeIs PySem.F.entry_dict_ne ?_ (PySem.F.args_dict_ne_2 _ _)) un
  show wpAny _ _ (Builtin.Dict.dictSlotArgs "__ne__" ⟨[.ref a,.ref b],[]⟩ >>= _) _ _ s
  unfold Builtin.Dict.dictSlotArgs
  refine wpAny_bind (wpAny_bind (wpAny_notOrdered_dict da.typeIs (wpAny_pure ?_)))
  refine wpAny_bind (wpAny_isInstance (T := "dict") db.typeIs PySem.F.sub_dict_dict ?_)
  simp only [Bool.not_true,Bool.false_eq_true,if_false]
  refine wpAny_bind (wpAny_pure (wpAny_bind (wpAny_pure (wpAny_bind (same (wpAny_pure ⟨_,rfl,(fun x=>nomatch x),?_⟩))))))
  simpa using q
end
inductive HitsT (K : PySem.W.Frag) (H : Hp) (ls : List (KK × V)) : List (KK × V) -> Bool -> Prop
 | nil : HitsT K H ls [] true
 | miss {k : KK} {v : V} {r : List (KK × V)} : valV ls k = none -> HitsT K H ls ((k,v) :: r) false
 | hit {k : KK} {v y : V} {r : List (KK × V)} {d e : PyData} {b : Bool} : valV ls k = some y -> Dp K H v d -> Dp K H y e -> d.canLay0 = true -> e.canLay0 = true -> d.depth <= 60 -> HitsT K H ls r b -> HitsT K H ls ((k,v) :: r) (PyData.eqv d e && b)
section
variable {X : Cx} {K : PySem.W.Frag}
theorem hitsT_kt {pins : List (Addr × Obj)} {σ : L2.St} {H : Hp} {s : Shared} (I : Inv X pins σ H s) {A : Around} (hu : A.units + 60 < cLine) {ls : List (KK × V)} {xb : List (KK × Addr × Value)} (rb : KT H ls xb) :
  ∀ {ks : List (KK × V)} {xa : List (KK × Addr × Value)} {b : Bool},KT H ks xa -> HitsT X.K H ls ks b -> PySem.W.KeqHits A s (prs xb) (prs xa) b
 | [],_,_,ra,h=>by cases ra; cases h; exact .nil
 | (k,v) :: ks,_,_,ra,h=>by
  cases ra with
  | @cons _ x _ xs z t =>
   obtain ⟨k1,b1,v1⟩ := x
   obtain ⟨z1,_,z3⟩ := z
   cases (show k = k1 from z1)
   have at_ : valueAt (prs xb) k = (atKey xb k).map (·.2) := valueAt_pairsH xb k
   have rr := rb.val k
   rw [<- at_] at rr
   cases h with
   | miss hm =>
    rw [hm] at rr
    refine .miss ?_
    cases hv : valueAt (prs xb) k with
    | none=>rfl
    | some u=>rw [hv] at rr; cases rr
   | hit hy hd he c1 c2 hdp hr =>
    rw [hy] at rr
    obtain ⟨u,hu2,ru⟩ := rr.some_of
    obtain ⟨as,r1⟩ := Dp.reads I _ _ _ hd z3
    obtain ⟨bs,r2⟩ := Dp.reads I _ _ _ he ru
    exact .hit hu2 (SeqAt.eqAt_reads _ _ A s _ _ as bs r1 r2 c1 c2 (Nat.lt_of_le_of_lt (Nat.add_le_add_left (Nat.le_trans (Nat.min_le_left _ _) hdp) _) hu)) (hitsT_kt I hu rb t hr)
def rEqDT (K : PySem.W.Frag) (neg : Bool) : R2 := fun x y H Q=>∃ a b ks ls r,x = .ref a /\ y = .ref b /\ Rd H a (.dT ks) /\ Rd H b (.dT ls) /\ (ks.length = ls.length -> HitsT K H ls ks r) /\ Q (.bl (if neg then !(ks.length == ls.length && r) else ks.length == ls.length && r)) H
theorem kDT {neg : Bool} (hK : X.K = K) (hu : X.A.units + 64 < cLine) : OpR X (compareOp (if neg then .NotEq else .Eq)) (rEqDT K neg) := by
 subst hK
 intro pins s σ H x y v u Q I rx ry h
 obtain ⟨a,b,ks,ls,r,rfl,rfl,ea,eb,hp,q⟩ := h
 obtain rfl : v = Value.ref a := rx
 obtain rfl : u = Value.ref b := ry
 obtain ⟨_,ya,xa,ra,da⟩ := dt_rd I.hok ea
 obtain ⟨_,yb,xb,rb,db⟩ := dt_rd I.hok eb
 have e1 : xa.length = ks.length := (Paired.length ra).symm
 have e2 : xb.length = ls.length := (Paired.length rb).symm
 refine dict_eqs (kd := tupleKind (mixKind X.prog X.w)) (r := r) ya yb (by omega) (by show X.A.units + 1 < cLine; omega) da db (fun hl=>hitsT_kt I (by show X.A.units + 1 + 60 < cLine; omega) rb ra (hp (by rw [<- e1,<- e2]; exact hl))) ⟨.bl _,H,I,rfl,by rw [e1,e2]; exact q⟩
theorem keqDT (hK : X.K = K) (hu : X.A.units + 64 < cLine) : OpR X (compareOp .Eq) (rEqDT K false) := kDT (neg := false) hK hu
theorem kneDT (hK : X.K = K) (hu : X.A.units + 64 < cLine) : OpR X (compareOp .NotEq) (rEqDT K true) := kDT (neg := true) hK hu
end
end SG
namespace LamY
open PySem PySem.Spec PyProof.Rows L2 LamX
abbrev Cl := Value × (Addr -> Value -> Option Addr -> TS)
end LamY
namespace SG
open PySem PySem.Spec PyProof.Rows L2 SrtK
section
variable {X : Cx}
def rListDT : List V -> Hp -> VK -> Prop := fun xs H Q=>∃ (a : Addr) (kvs : List (KK × V)),xs = [.ref a] /\ Rd H a (.dT kvs) /\ ∀ (bs : List Addr) (p : Addr),KeysAt H bs (kvs.map (·.1)) -> H p = none -> Q (.ref p) (upd H p (.lst (bs.map V.ref)))
theorem clistT (hc : X.calm = true) : CallR X (.type "list") rListDT := by
 intro pins s σ H xs us Q I r h
 obtain ⟨d,kvs,rfl,hd,q⟩ := h
 rw [Vals.ref1 r]
 obtain ⟨z,hs,ks,pr,o,es,ep,ho,hx,hdt,he,hn⟩ := (show ObjOk X.prog X.w H s.heap d (.dT kvs) from hd.ok I.hok)
 have l1 : es.size = ks.length := size_of_entries he
 have l2 : kvs.length = ks.length := Paired.length pr
 have k0 : KeysAt H (ks.map fun x=>x.2.1) (kvs.map (·.1)) := keysAt_isKeys (isKeys_of pr)
 refine PySem.W.kdl_call (kdl_raw hs hx hdt) (I.ok.hd hc) ho (by omega) fun h' tk acc c' kp hD it=>?_
 have ea : acc.toList = (ks.map fun x=>x.2.1).map Value.ref := by
  have hl : acc.toList.length = ks.length := by rw [Array.length_toList,it.1]; exact l1
  apply List.ext_getElem?
  intro j
  rw [List.getElem?_map,List.getElem?_map]
  cases hj : acc.toList[j]? with
  | none =>
   have h1 := List.getElem?_eq_none_iff.mp hj
   rw [List.getElem?_eq_none (by omega)]
   all_goals rfl
  | some v =>
   obtain ⟨en,hen,hv⟩ := it.2 j v (by rw [<- Array.getElem?_toList]; exact hj)
   have qe := entry_at he j
   rw [hen] at qe
   obtain ⟨b,hb,eb⟩ := Option.map_eq_some_iff.mp qe.symm
   rw [hb,hv,<- eb]
   all_goals rfl
 refine ⟨.ref s.heap.objs.size,upd H s.heap.objs.size (.lst ((ks.map fun x=>x.2.1).map V.ref)),I.laid (t' := tk) kp (Nat.le_refl _)
  (show ObjOk X.prog X.w _ _ _ (.lst ((ks.map fun x=>x.2.1).map V.ref)) from ⟨by rw [List.length_map,List.length_map]; omega,acc.toList,c',by rw [ea]; exact vals_ref _,by rw [Array.toArray_toList]; exact hD⟩),rfl,q _ _ k0 (I.hok.fresh (Nat.le_refl _))⟩
end
end SG
namespace DL
open PySem PySem.Spec PyProof.Rows L2 SrtK LowX SG
variable [TabL]
section
variable {K : PySem.W.Frag} {te ta tb : TE} {ρ : Env} {E : EndD} {Q : D -> Env -> Prop}
theorem opn_listDT {ps : List (List Key × D)} (q : Q (.lst (ps.map fun p=>.tup (p.1.map kD))) ρ) : OpN K rListDT [.dt ps] ρ Q := fun F G H σ R vs hv Q' k=>by
 obtain ⟨v,rfl,h⟩ := hv.one
 obtain ⟨a,kvs,rfl,h1,h2,h3⟩ := rep_dt h
 refine ⟨a,kvs,rfl,R.wd.g.rdx.1 _ _ trivial h1,fun bs p hk hp=>?_⟩
 rw [h2] at hk
 obtain ⟨G1,e1,R1,r1⟩ := tupsIn R hk
 have e0 : ((ps.map (·.1)).map fun k=>D.tup (k.map kD)) = ps.map fun p=>.tup (p.1.map kD) := by rw [List.map_map]; rfl
 rw [e0] at r1
 obtain ⟨z1,z2,z3,z4,z5⟩ := en_of R1 hp r1
 exact k p _ ρ G1 _ e1 z1 z2 z3 z4 z5 q
def HeldE (K : PySem.W.Frag) (te : TE) (ρ : Env) (d0 : D) : Prop := ∀ F G H σ,RE K F G H σ ρ -> ∃ a,Rep K G (.ref a) d0 /\ ∀ G2 H2,RdX G G2 -> RE K F G2 H2 σ ρ -> ∀ Q' : VK,Q' (.ref a) H2 -> te σ H2 Q'
theorem held_ix {i : Nat} {ds : List D} {j : Int} {d0 : D} (hi : ρ[i]? = some (.sh (.tup ds))) (hj : atI ds j = some d0) (hd : d0.isDict = true) : HeldE K (tOp (rIx K) (tVar i) (tC (.int j))) ρ d0 := fun F G H σ R=>by
 obtain ⟨s,hs,v,rfl,hv⟩ := R.sl.get hi
 obtain ⟨t,vs,rfl,h1,h2⟩ := rep_tup hv
 obtain ⟨x,h3,h4⟩ := atI_rep h2 hj
 obtain ⟨a,u,rfl,_⟩ := dict_at h4 hd
 exact ⟨a,h4,fun G2 H2 x2 R2 Q' q=>⟨_,hs,.inr (.inl ⟨t,vs,j,.ref a,rfl,rfl,R2.wd.g.sqT (x2.2.2.2.1 _ _ h1),h3,q⟩)⟩⟩
def WalkE (K : PySem.W.Frag) (wi : TE -> TI) (d0 : D) (ds : List D) : Prop := ∀ te F G H σ ρ a od,RE K F G H σ ρ -> (∀ Q' : VK,Q' (.ref a) H -> te σ H Q') -> FzD K G a od d0 -> ∀ R' : It -> Hp -> Prop,(∀ J,Yields K G J ds -> R' J H) -> wi te σ H R'
theorem we_keysT {ps : List (List Key × D)} : WalkE K iKeys (.dt ps) (ps.map fun p=>.tup (p.1.map kD)) := fun te F G H σ ρ a od R ht fz R' k=>by
 obtain ⟨kvs,h1,h2,h3⟩ := fz
 have hlen : kvs.length = ps.length := by have := congrArg List.length h2; simpa using this
 refine ht _ ⟨a,od,rfl,.inr ⟨kvs,R.wd.g _ _ h1,k _ ⟨?_,?_,?_⟩⟩⟩
 ·intro F G2 H2 σ ρ i e R hi
  exact ⟨R.wd.g _ _ (e _ _ h1),by rw [List.length_map] at hi; omega⟩
 ·intro F G2 H2 σ ρ e R
  exact ⟨R.wd.g _ _ (e _ _ h1),by rw [List.length_map]; omega⟩
 ·intro F G2 H2 σ ρ i x H3 e R hi y
  obtain ⟨rfl,kk,v,q,hkv,rfl,hq⟩ := y
  obtain ⟨G3,e3,R3,h3⟩ := R.tupIn hq
  have z : (kvs.map (·.1))[i]? = some kk := by rw [List.getElem?_map,hkv]; rfl
  rw [h2,List.getElem?_map] at z
  obtain ⟨p,hp,rfl⟩ := Option.map_eq_some_iff.mp z
  exact ⟨G3,.tup (p.1.map kD),e3,R3,by rw [List.getElem?_map,hp]; rfl,.tup h3 (reps_kD _)⟩
end
end DL
namespace DL
open PySem PySem.Spec PyProof.Rows L2 SrtK LowX
variable [TabL]
theorem ew_dgetkT {K : PySem.W.Frag} {td ty : TE} {ρ : Env} {Q : D -> Env -> Prop} (h : EvW K td ρ fun x ρ1=>EvW K ty ρ1 fun y ρ2=>∃ k ps d,y = .tup (k.map kD) /\ x = .dt ps /\ dget ps k = some d /\ Q d ρ2) : EvW K (tDGet td ty) ρ Q := fun F G H σ R Q' k =>
 h F G H σ R _ fun v x ρ1 G1 H1 e1 R1 hv q1=>q1 F G1 H1 σ R1 _ fun w y ρ2 G2 H2 e2 R2 hw q2=>by
  obtain ⟨kk,ps,d,rfl,rfl,hd,q⟩ := q2
  obtain ⟨a,kvs,rfl,h1,h2,h3⟩ := rep_dt (hv.mono e2)
  have hr : Rd H2 a (.dT kvs) := R2.wd.g.rdx.1 _ _ trivial h1
  obtain ⟨b,rfl,hb⟩ := rep_kT hw
  rcases dk_look kk h2 h3 with ⟨_,z2⟩ | ⟨v1,d1,z1,z2,z3⟩
  ·rw [hd] at z2; cases z2
  ·rw [hd] at z2; cases z2
   exact ⟨a,v1,rfl,.inr ⟨kvs,kk,b,hr,rfl,R2.wd.g _ _ hb,z1.symm⟩,k _ _ ρ2 G2 H2 (e1.trans e2) R2 z3 q⟩
end DL
namespace DL
open PySem PySem.Spec PyProof.Rows L2 SrtK
variable [TabL]
section
variable {K : PySem.W.Frag} {te ta tb tc td ty tx : TE} {tt : TT} {ts : TA} {ρ : Env} {E : EndD} {Q : D -> Env -> Prop} {p c : Addr} {es ds : List D} {i : Nat}
theorem reps_rdx {G G' : Hp} {vs : List V} {xs : List D} (e : RdX G G') (r : Reps K G vs xs) : Reps K G' vs xs := by
 have h : OwnR K G (some (.lst vs)) (.lst xs) := ⟨vs,rfl,r⟩
 obtain ⟨ws,e1,r1⟩ := h.rdx e
 cases e1
 exact r1
theorem ownA_out {ρ : Env} {r : Sl} (nd : (ownA ρ).Nodup) (hi : ρ[i]? = some r) {b : Addr} (m : b ∈ r.adr) : b ∉ ownA (ρ.set i .un) := fun z=>by
 have sz := (List.getElem?_eq_some_iff.mp hi).1
 obtain ⟨r',hr,m2⟩ := List.mem_flatMap.mp z
 obtain ⟨j,hj⟩ := List.mem_iff_getElem?.mp hr
 by_cases e : j = i
 ·subst e; rw [List.getElem?_set_self sz] at hj; cases hj; cases m2
 ·rw [List.getElem?_set_ne (Ne.symm e)] at hj
  exact nodup_apart nd hi hj (Ne.symm e) m m2
end
end DL
namespace DL
open PySem PySem.Spec PyProof.Rows L2 SrtK
variable [TabL]
def tabφ (K : PySem.W.Frag) (a : Addr) (ds : List D) (ps : List (List Key × D)) : Option V -> Hp -> Hp -> Prop := fun s G H =>
 ∃ t vs,s = some (.ref t) /\ G t = some (.tup (vs ++ [.ref a])) /\ Reps K G vs ds /\ OwnR K G (H a) (.dt ps)
def tab (K : PySem.W.Frag) (a : Addr) (ds : List D) (ps : List (List Key × D)) : Sl := .any [a] (tabφ K a ds ps)
section
variable {K : PySem.W.Frag} {te ta tb tc td ty tv tx : TE} {ρ : Env} {E : EndD} {Q : D -> Env -> Prop} {a : Addr} {ds : List D} {ps p0 : List (List Key × D)} {i : Nat}
theorem tab_slot {F G H : Hp} {s : Option V} (h : tabφ K a ds ps s G H) (hG : G a = none) (hF : F a = none) : SlotOk K F G H s (tab K a ds ps) := by
 refine ⟨h,fun s G G' H H' e k h=>?_,fun b m=>?_⟩
 ·obtain ⟨t,vs,h1,h2,h3,h4⟩ := h
  exact ⟨t,vs,h1,e.2.2.2.1 _ _ h2,reps_rdx e h3,by rw [k a List.mem_cons_self]; exact h4.rdx e⟩
 ·rw [List.mem_singleton.mp m]
  obtain ⟨t,vs,_,_,_,h4⟩ := h
  obtain ⟨u,hu,hm⟩ := h4.some
  exact ⟨hG,hF,u,hu,nt_mut hm⟩
theorem tab_get {F G H : Hp} {σ : L2.St} (R : RE K F G H σ ρ) (hi : ρ[i]? = some (tab K a ds ps)) : ∃ t vs,σ[i]? = some (some (.ref t)) /\ G t = some (.tup (vs ++ [.ref a])) /\ Reps K G vs ds /\ G a = none /\ F a = none /\ ∃ kvs,H a = some (.dT kvs) /\ kvs.map (·.1) = ps.map (·.1) /\ Reps K G (kvs.map (·.2)) (ps.map (·.2)) := by
 obtain ⟨s,hs,⟨t,vs,rfl,h2,h3,h4⟩,_,h5⟩ := R.sl.get hi
 have ha := h5 a List.mem_cons_self
 exact ⟨t,vs,hs,h2,h3,ha.1,ha.2.1,h4⟩
theorem ws_asgTab (h : EvW K ta ρ fun d1 ρ1=>EvW K tb ρ1 fun d2 ρ2=>EvW K tc ρ2 fun d3 ρ3=>EvN K td ρ3 fun d ρ4=>∃ ps,d = .dt ps /\ ∀ a,E.nx (ρ4.set i (tab K a [d1,d2,d3] ps))) : WS K (tAsg (tTup (tCons ta (tCons tb (tCons tc (tCons td tNil))))) (gName i)) ρ E := fun F G H σ Dn R L =>
 h F G H σ R _ fun v1 d1 ρ1 G1 H1 e1 R1 r1 q1=>q1 F G1 H1 σ R1 _ fun v2 d2 ρ2 G2 H2 e2 R2 r2 q2=>q2 F G2 H2 σ R2 _ fun v3 d3 ρ3 G3 H3 e3 R3 r3 q3=>q3 F G3 H3 σ R3 _ fun a d ρ4 G4 H4 e4 R4 hG hF hO o q=>by
  obtain ⟨ps,rfl,q⟩ := q
  refine ⟨by show 4 <= sizeLine; decide,fun t ht=>?_⟩
  obtain ⟨u,hu,hm⟩ := o.some
  have at_ : a ≠ t := ne_of_none hu ht
  have R5 := R4.new (o := .tup [v1,v2,v3,.ref a]) ht
  have x5 : Ex G4 (upd G4 t (.tup [v1,v2,v3,.ref a])) := Ex.new (R4.wd.g.none ht)
  have hG5 : upd G4 t (.tup [v1,v2,v3,.ref a]) a = none := by rw [upd_ne at_]; exact hG
  have o5 : OwnR K (upd G4 t (.tup [v1,v2,v3,.ref a])) (upd H4 t (.tup [v1,v2,v3,.ref a]) a) (.dt ps) := by rw [upd_ne at_]; exact o.mono x5
  have R6 := R5.setAny (s := some (.ref t)) (r := tab K a [d1,d2,d3] ps) (tab_slot ⟨t,[v1,v2,v3],rfl,upd_same,.cons ((((r1.mono e2).mono e3).mono e4).mono x5) (.cons (((r2.mono e3).mono e4).mono x5) (.cons ((r3.mono e4).mono x5) .nil)),o5⟩ hG5 hF) (by show [a].Nodup; simp) (fun b m=>by rw [List.mem_singleton.mp m]; exact hO) i
  exact L.nx _ _ _ _ ((((e1.trans e2).trans e3).trans e4).trans x5) R6 (q a)
theorem ew_varTab (hi : ρ[i]? = some (tab K a ds ps)) (q : Q (.tup (ds ++ [.raw (.ref a)])) ρ) : EvW K (tVar i) ρ Q := fun F G H σ R Q' k=>by
 obtain ⟨t,vs,hs,h1,h2,_⟩ := tab_get R hi
 exact ⟨.ref t,hs,k _ _ ρ G H (Ex.refl G) R (.tup h1 (h2.append (.cons .raw .nil))) q⟩
theorem ws_dputTab (h : EvW K tv ρ fun d ρ1=>ρ1[i]? = some (tab K a ds p0) /\ ds.length = 3 /\ EvW K ty ρ1 fun y ρ2=>∃ k ps,y = .tup (k.map kD) /\ ρ2[i]? = some (tab K a ds ps) /\ ps.length < 90000 /\ E.nx (ρ2.set i (tab K a ds (dput ps k d)))) :
  WS K (sDPut (tOp (rIx K) (tVar i) (tC (.int 3))) ty tv) ρ E := fun F G H σ Dn R L =>
 h F G H σ R _ fun v d ρ1 G1 H1 e1 R1 hv q=>by
  obtain ⟨hi1,hl3,q⟩ := q
  obtain ⟨t,vs,hs1,g1,g2,_⟩ := tab_get R1 hi1
  have l3 : vs.length = 3 := by rw [g2.length]; exact hl3
  have hat : atI (vs ++ [V.ref a]) 3 = some (.ref a) := atI_nat (j := 3) (by rw [List.getElem?_append_right (by omega),l3]; rfl)
  refine ⟨.ref t,hs1,.inr (.inl ⟨t,_,3,.ref a,rfl,rfl,.inl (.inl (R1.wd.g _ _ g1)),hat,q F G1 H1 σ R1 _ fun w y ρ2 G2 H2 e2 R2 hw q2=>?_⟩)⟩
  obtain ⟨kk,ps,rfl,hi2,hl,q2⟩ := q2
  obtain ⟨t2,vs2,hs2,g3,g4,ga,fa,kvs,hd,hk,hr⟩ := tab_get R2 hi2
  obtain ⟨z1,z2⟩ := put_rel (k := kk) hk hr (hv.mono e2)
  have hlen : kvs.length = ps.length := by have := congrArg List.length hk; simpa using this
  obtain ⟨b,rfl,hb⟩ := rep_kT hw
  refine ⟨a,upd H2 a (.dT (putK kvs kk v)),rfl,.inr ⟨kvs,kk,b,hd,rfl,R2.wd.g _ _ hb,by rw [hlen]; exact bigl (by omega),rfl⟩,?_⟩
  exact L.nx _ _ G2 _ (e1.trans e2) (R2.mut (r' := tab K a ds (dput ps kk d)) hi2 List.mem_cons_self (List.Sublist.refl _) hs2 (tab_slot ⟨t2,vs2,rfl,g3,g4,_,upd_same,z1,z2⟩ ga fa)) q2
theorem ws_shareTab {t : TS} (hi : ρ[i]? = some (tab K a ds ps)) (h : WS K t (ρ.set i (.sh (.tup (ds ++ [.dt ps])))) E) : WS K t ρ E := fun F G H σ Dn R L=>by
 obtain ⟨t0,vs,hs,h1,h2,ga,fa,kvs,hd,hk,hr⟩ := tab_get R hi
 have na : a ∉ ownA (ρ.set i .un) := ownA_out R.nd hi List.mem_cons_self
 have R1 := R.forget hi hs
 have R2 := R1.share hd ga fa na (fun _ z=>by cases z)
 have x1 : Ex G (upd G a (.dT kvs)) := Ex.new ga
 have R3 := R2.setSh (v := .ref t0) (d := .tup (ds ++ [.dt ps])) (.tup (x1 _ _ h1) ((h2.mono x1).append (.cons (.dt (.inl upd_same) hk (hr.mono x1)) .nil))) i
 have eσ : σ.set i (some (.ref t0)) = σ := by
  obtain ⟨hl,hx⟩ := List.getElem?_eq_some_iff.mp hs
  rw [<- hx,List.set_getElem_self]
 rw [eσ,List.set_set] at R3
 exact h F _ H σ Dn R3 (L.mono x1)
end
end DL
namespace DL
open PySem PySem.Spec PyProof.Rows L2 SrtK
variable [TabL]
theorem pa_starK {X : Cx} {K : PySem.W.Frag} {e : Expr} {es : List Expr} {te : TE} {t : TA} {p : Pos} (hK : X.K = K) (he : PE X e te) (hr : PA X es t) (hs : starEach (.Starred e p :: es) X.env = (true,eval e X.env) :: starEach es X.env := by rfl) : PA X (.Starred e p :: es) (StX.tStar K te t) := hK ▸ StX.pa_star he hr hs
theorem ea_star {K : PySem.W.Frag} {te : TE} {ts : TA} {ρ : Env} {Q : List D -> Env -> Prop} (h : EvW K te ρ fun x ρ1=>∃ xs,x.seq = some xs /\ EvA K ts ρ1 fun ys ρ2=>Q (xs ++ ys) ρ2) : EvA K (StX.tStar K te ts) ρ Q := fun F G H σ R Q' k =>
 h F G H σ R _ fun v x ρ1 G1 H1 e1 R1 hv q=>by
  obtain ⟨xs,hx,q⟩ := q
  have key : ∃ p vs,v = V.ref p /\ (SqT K H1 p vs \/ SqL K H1 p vs) /\ Reps K G1 vs xs := by
   cases x with
   | lst ys =>
    cases hx
    obtain ⟨p,vs,rfl,h1,h2⟩ := rep_lst hv
    exact ⟨p,vs,rfl,.inr (.inl (.inl (R1.wd.g _ _ h1))),h2⟩
   | tup ys =>
    cases hx
    obtain ⟨p,vs,rfl,h1,h2⟩ := rep_tup hv
    exact ⟨p,vs,rfl,.inl (.inl (.inl (R1.wd.g _ _ h1))),h2⟩
   | _=>cases hx
  obtain ⟨p,vs,rfl,h1,h2⟩ := key
  exact ⟨p,vs,rfl,h1,q F G1 H1 σ R1 _ fun ws ys ρ2 G2 H2 e2 R2 hws q2=>k _ _ ρ2 G2 H2 (e1.trans e2) R2 ((h2.mono e2).append hws) q2⟩
end DL
namespace DL
open PySem PySem.Spec PyProof.Rows L2 SrtK
variable [TabL]
theorem en_lc2 {K : PySem.W.Frag} {te : TE} {ρ : Env} {Q : D -> Env -> Prop} {wi wi1 : TI} {g g1 : TG} {vs vs1 : List Nat} (h : EvI K wi ρ fun ds ρ1=>ownFree ρ1 vs = true /\ ds.length <= 90000 /\ ∃ P : Nat -> List D -> Prop,P 0 [] ∧
   (∀ i d acc,ds[i]? = some d -> P i acc -> GV K g vs d (wipeE ρ1 vs) fun ρ2=>EvI K wi1 ρ2 fun es ρ3=>ρ3 = ρ2 /\ ownFree ρ2 vs1 = true /\ ∃ P1 : Nat -> List D -> Prop,P1 0 acc ∧
    (∀ j e acc1,es[j]? = some e -> P1 j acc1 -> acc1.length < 90000 /\ GV K g1 vs1 e (wipeE ρ2 vs1) fun ρ4=>EvW K te ρ4 fun y ρ5=>ρ5 = ρ4 /\ P1 (j + 1) (acc1 ++ [y])) ∧
    ∀ acc1,P1 es.length acc1 -> P (i + 1) acc1) ∧
   ∀ acc,P ds.length acc -> Q (.lst acc) ρ1) : EvN K (tLc2 wi g tYes wi1 g1 tYes te vs vs1) ρ Q := fun F G H σ R Q' k =>
 h F G H σ R _ fun J ds ρ1 G1 H1 e1 R1 Y q=>fun Dd hD=>by
  obtain ⟨hv0,hlen,P,p0,turn,fin⟩ := q
  have hv := ownFree_at hv0
  have hF0 : F Dd = none := R1.wd.f.none hD
  have hO : Dd ∉ ownA ρ1 := ownA_fresh R1 hD
  refine ⟨fun i m H'=>m + i = ds.length /\ ∃ acc accV G',Ex G1 G' /\ RE K F G' H' σ ρ1 /\ G' Dd = none /\ H' Dd = some (.lst accV) /\ Reps K G' accV acc /\ P i acc,
   ⟨ds.length,rfl,[],[],G1,Ex.refl _,R1.alone hD,R1.wd.g.none hD,upd_same,.nil,p0⟩,?_⟩
  rintro i m H' ⟨hm,acc,accV,G',e',R',hG,hH,ra,p⟩
  have Rf := R'.frm hH hG hO ⟨fun _ z=>(nomatch z),fun _ z=>(nomatch z)⟩
  by_cases hi : i < ds.length
  ·refine .inr ⟨Y.go _ G' H' σ ρ1 i e' Rf hi,fun H2=>∃ acc accV G2,Ex G1 G2 /\ RE K F G2 H2 σ ρ1 /\ G2 Dd = none /\ H2 Dd = some (.lst accV) /\ Reps K G2 accV acc /\ P (i + 1) acc,fun H2 z=>⟨m - 1,by omega,by omega,z⟩,fun x H2 y=>?_⟩
   obtain ⟨G2,d,e2,R2,hd,hx⟩ := Y.yld _ G' H' σ ρ1 i x H2 e' Rf hi y
   refine turn i d acc hd p _ G2 H2 _ x (R2.wipe vs) hx _ fun σ2 ρ2 l2 s2 R3 w3=>?_
   refine ⟨?_,?_⟩
   ·have e0 : L2.wipe (L2.wipe σ vs) vs = L2.wipe σ vs := wipe_eq (L2.wipe_length σ vs) fun i hi=>wipe_at hi
    rw [wipe_eq l2 fun i hi=>(s2 i hi).1,e0]
   unfold tYes
   dsimp only
   rw [if_pos rfl]
   refine w3 _ G2 H2 σ2 R3 _ fun J1 es ρ3 G4 H4 e4 R4 Y1 w4=>?_
   obtain ⟨rfl,hv10,P1,p10,turn1,fin1⟩ := w4
   have hv1 := ownFree_at hv10
   have back : ∀ {G5 H5 : Hp} {aV : List V},Ex G2 G5 -> RE K (upd F Dd (.lst aV)) G5 H5 σ2 ρ3 -> RE K F G5 H5 σ ρ1 /\ H5 Dd = some (.lst aV) /\ G5 Dd = none := fun {G5 H5 aV} e5 R5=>by
    obtain ⟨R6,h6,g6⟩ := R5.unfrm hF0
    refine ⟨⟨R6.wd,Slots.join (e2.trans e5) R'.sl R6.sl (fun j r hr ho=>?_),R'.nd⟩,h6,g6⟩
    have hj := hv j r hr ho
    rw [(s2 j hj).1,(s2 j hj).2,wipe_at hj,wipeE_at hj]
    exact ⟨hr,rfl⟩
   refine ⟨fun j k H'=>k + j = es.length /\ ∃ acc1 accV1 G5,Ex G4 G5 /\ RE K (upd F Dd (.lst accV1)) G5 H' σ2 ρ3 /\ Reps K G5 accV1 acc1 /\ P1 j acc1,⟨es.length,rfl,acc,accV,G4,Ex.refl _,R4,ra.mono (e2.trans e4),p10⟩,?_⟩
   rintro j k1 H5 ⟨hk,acc1,accV1,G5,e5,R5,ra1,p1⟩
   by_cases hj : j < es.length
   ·refine .inr ⟨Y1.go _ G5 H5 σ2 ρ3 j e5 R5 hj,fun H'=>∃ acc1 accV1 G6,Ex G4 G6 /\ RE K (upd F Dd (.lst accV1)) G6 H' σ2 ρ3 /\ Reps K G6 accV1 acc1 /\ P1 (j + 1) acc1,fun H' z=>⟨k1 - 1,by omega,by omega,z⟩,fun x1 H6 y1=>?_⟩
    obtain ⟨G6,d1,e6,R6,hd1,hx1⟩ := Y1.yld _ G5 H5 σ2 ρ3 j x1 H6 e5 R5 hj y1
    obtain ⟨hl1,t1⟩ := turn1 j d1 acc1 hd1 p1
    refine t1 _ G6 H6 _ x1 (R6.wipe vs1) hx1 _ fun σ3 ρ4 l3 s3 R7 w7=>⟨?_,?_⟩
    ·have e0 : L2.wipe (L2.wipe σ2 vs1) vs1 = L2.wipe σ2 vs1 := wipe_eq (L2.wipe_length σ2 vs1) fun i hi=>wipe_at hi
     rw [wipe_eq l3 fun i hi=>(s3 i hi).1,e0]
    dsimp only
    rw [if_pos rfl]
    refine w7 _ G6 H6 σ3 R7 _ fun v yv ρ5 G7 H7 e7 R8 hvy w8=>?_
    obtain ⟨rfl,w8⟩ := w8
    obtain ⟨R9,h9,g9⟩ := R8.unfrm hF0
    obtain ⟨R5u,_,_⟩ := R5.unfrm hF0
    have nD : Dd ∉ ownA ρ3 := R5.unfrm' hF0
    have R10 : RE K F G7 H7 σ2 ρ3 := by
     refine ⟨R9.wd,Slots.join (e6.trans e7) R5u.sl R9.sl (fun j r hr ho=>?_),R5.nd⟩
     have hj := hv1 j r hr ho
     rw [(s3 j hj).1,(s3 j hj).2,wipe_at hj,wipeE_at hj]
     exact ⟨hr,rfl⟩
    have R11 := R10.aloneU (o := .lst (accV1 ++ [v])) g9 hF0 nD h9 ⟨fun _ z=>(nomatch z),fun _ z=>(nomatch z)⟩
    have R12 := R11.frm upd_same g9 nD ⟨fun _ z=>(nomatch z),fun _ z=>(nomatch z)⟩
    exact ⟨accV1,h9,by rw [ra1.length]; exact bigl (by omega),acc1 ++ [yv],accV1 ++ [v],G7,(e5.trans e6).trans e7,R12,(ra1.mono (e6.trans e7)).append (.cons hvy .nil),w8⟩
   ·have ej : j = es.length := by omega
    subst ej
    obtain ⟨R6,h6,g6⟩ := back (e4.trans e5) R5
    exact .inl ⟨Y1.stop _ G5 H5 σ2 ρ3 e5 R5,acc1,accV1,G5,((e'.trans e2).trans e4).trans e5,R6,g6,h6,ra1,fin1 _ p1⟩
  ·have ei : i = ds.length := by omega
   subst ei
   exact .inl ⟨Y.stop _ G' H' σ ρ1 e' R',k Dd (.lst acc) ρ1 G' H' (e1.trans e') R' hG hF0 hO ⟨accV,hH,ra⟩ (fin acc p)⟩
end DL
set_option maxHeartbeats 2000000
namespace ZM
open PySem PySem.Spec PyProof.Rows L2 RZ
def Steps (it : Addr) (P P' : Heap -> Prop) (x : Value) : Prop := ∀ (prog : Program) (w : World) (A : Around) (E : Value -> Shared -> Prop) (s : Shared) (Q : Value -> Shared -> Prop),P s.heap -> (∀ h',P' h' -> Heap.SameBut it s.heap h' -> Q x { s with heap := h' }) -> wpAny (model prog w) A (Builtin.SmallTypes.nextOf (.ref it)) Q E s
def Halts (it : Addr) (P : Heap -> Prop) : Prop := ∀ (prog : Program) (w : World) (A : Around) (E : Value -> Shared -> Prop) (s : Shared) (Q : Value -> Shared -> Prop),A.handled = none -> P s.heap -> (∀ h' e,Heap.ExtBut it s.heap h' -> (∃ o,h'.get? e = some o /\ o.cls = .type "StopIteration") -> E (.ref e) { s with heap := h' }) -> wpAny (model prog w) A (Builtin.SmallTypes.nextOf (.ref it)) Q E s
def Sees (a b : Addr) (P : Heap -> Prop) : Prop := ∀ h h' : Heap,(∀ o,h.get? a = some o -> h'.get? a = some o) -> (∀ o,h.get? b = some o -> h'.get? b = some o) -> P h -> P h'
theorem Sees.but {a b c : Addr} {P : Heap -> Prop} (S : Sees a b P) {h h' : Heap} (p : P h) (e : Heap.SameBut c h h') (ha : a ≠ c) (hb : b ≠ c) : P h' :=
 S h h' (fun o q=>e.extBut _ _ ha q) (fun o q=>e.extBut _ _ hb q) p
def TP (it l : Addr) (k : Nat) (xs : Array Value) : Heap -> Prop := fun h=>h.IsTupleIter it l k /\ h.IsTuple l xs
def LP (it l : Addr) (k : Nat) (xs : Array Value) : Heap -> Prop := fun h=>h.IsListIter it l k /\ h.IsList l xs
theorem TP.sees {it l : Addr} {k : Nat} {xs : Array Value} : Sees it l (TP it l k xs) := fun h h' e1 e2 p=>⟨p.1.at e1,p.2.at e2⟩
theorem LP.sees {it l : Addr} {k : Nat} {xs : Array Value} : Sees it l (LP it l k xs) := fun h h' e1 e2 p=>⟨p.1.at e1,p.2.at e2⟩
theorem TP.steps {it l : Addr} {k : Nat} {xs : Array Value} {x : Value} (hl : l ≠ it) (hx : xs[k]? = some x) : Steps it (TP it l k xs) (TP it l (k + 1) xs) x := fun prog w A E s Q p q =>
 nextOf_tuple_item p.1 p.2 hx fun h' a b=>q h' ⟨a,p.2.at fun o e=>b.extBut _ _ hl e⟩ b
theorem LP.steps {it l : Addr} {k : Nat} {xs : Array Value} {x : Value} (hl : l ≠ it) (hx : xs[k]? = some x) : Steps it (LP it l k xs) (LP it l (k + 1) xs) x := fun prog w A E s Q p q =>
 wpAny_nextOf_list_item p.1 p.2 hx fun h' a b=>q h' ⟨a,p.2.at fun o e=>b.extBut _ _ hl e⟩ b
theorem TP.halts {it l : Addr} {k : Nat} {xs : Array Value} (hx : xs[k]? = none) : Halts it (TP it l k xs) := fun prog w A E s Q hh p q=>nextOf_tuple_end hh p.1 p.2 hx q
theorem LP.halts {it l : Addr} {k : Nat} {xs : Array Value} (hx : xs[k]? = none) : Halts it (LP it l k xs) := fun prog w A E s Q hh p q=>wpAny_nextOf_list_end hh p.1 p.2 hx q
section
variable {prog : Program} {w : World} {A : Around} {E : Value -> Shared -> Prop} {s : Shared} {z TI TO i1 i2 l1 l2 : Addr} {P1 P1' P2 P2' : Heap -> Prop}
theorem turnItem {x y a b : Value} {Q : Value -> Shared -> Prop} (D : ZipApart z TI TO i1 i2 l1 l2) (g1 : Sees i1 l1 P1) (g1' : Sees i1 l1 P1') (g2 : Sees i2 l2 P2) (g2' : Sees i2 l2 P2') (n1 : Steps i1 P1 P1' x) (n2 : Steps i2 P2 P2' y)
  (hz : IsZip s.heap z TI TO .none) (hTI : IsPair s.heap TI (.ref i1) (.ref i2)) (hTO : IsPair s.heap TO a b) (h1 : P1 s.heap) (h2 : P2 s.heap)
  (hQ : ∀ h',IsZip h' z TI TO (rawInt s.heap.objs.size) -> IsPair h' TO x y -> P1' h' -> P2' h' -> IsPair h' s.heap.objs.size x y -> h'.objs.size = s.heap.objs.size + 1 ->
   (∀ c o,c ≠ z -> c ≠ TO -> c ≠ i1 -> c ≠ i2 -> s.heap.get? c = some o -> h'.get? c = some o) -> i1 < h'.objs.size -> Q (.ref s.heap.objs.size) { s with heap := h' }) (hi1 : i1 < s.heap.objs.size) (hi2 : i2 < s.heap.objs.size) :
  wpAny (model prog w) A (Builtin.«zip.__next__» ⟨[.ref z],[]⟩) (fun fin s'=>∃ v,fin = .done (.ret v) /\ Q v s') E s := by
 show wpAny _ _ (field (.ref z) 2 >>= _) _ _ _
 refine wpAny_bind (wpAny_field hz rfl (x := .bool false) rfl ?_); show wpAny _ _ (field (.ref z) 3 >>= _) _ _ _
 refine wpAny_bind (wpAny_field hz rfl (x := .ref TI) rfl (wpAny_bind (wpAny_seqItems hTI rfl ?_))); show wpAny _ _ (Builtin.SmallTypes.ownedTupleIsFree (.ref z) >>= _) _ _ _
 refine wpAny_bind ?_
 unfold Builtin.SmallTypes.ownedTupleIsFree
 refine wpAny_bind (wpAny_field hz rfl (x := .none) rfl (wpAny_pure ?_)); simp only [if_true]
 refine wpAny_bind (wpAny_rule (wpAny_bind (wpAny_field hz rfl (x := .ref TO) rfl (wpAny_bind (wpAny_setField_rec hz (by simp) fun ha za sa=>?_)))))
 have za : IsZip ha z TI TO .ellipsis := za
 refine wpAny_bind ?_; simp only [List.zipIdx_cons,List.zipIdx_nil,List.forIn_cons,List.forIn_nil]
 refine wpAny_bind (wpAny_bind (wpAny_onRaise ?_)); show wpAny _ _ (Builtin.SmallTypes.nextOf (.ref i1) >>= _) _ _ _
 refine wpAny_bind (n1 _ _ _ _ _ _ (g1.but h1 sa D.i1z D.l1z) fun hb p1 sb=>wpAny_pure ?_)
 have tb : IsPair hb TO a b := sb.extBut _ _ D.TOi1 (sa.extBut _ _ D.TOz hTO)
 refine wpAny_bind (wpAny_seqItems tb rfl (wpAny_bind (wpAny_updateSeq_pair tb fun hc tc sc=>?_)))
 have tc : IsPair hc TO x b := tc
 refine wpAny_bind (wpAny_letGo (wpAny_pure ?_))
 refine wpAny_bind (wpAny_bind (wpAny_onRaise ?_)); show wpAny _ _ (Builtin.SmallTypes.nextOf (.ref i2) >>= _) _ _ _
 refine wpAny_bind (n2 _ _ _ _ _ _ (g2.but (g2.but (g2.but h2 sa D.i2z D.l2z) sb D.i12.symm D.l2i1) sc D.TOi2.symm D.l2TO) fun hd p2 sd=>wpAny_pure ?_)
 have td : IsPair hd TO x b := sd.extBut _ _ D.TOi2 tc
 refine wpAny_bind (wpAny_seqItems td rfl (wpAny_bind (wpAny_updateSeq_pair td fun he te se=>?_)))
 have te : IsPair he TO x y := te
 refine wpAny_bind (wpAny_letGo (wpAny_pure (wpAny_pure ?_)))
 refine wpAny_bind (wpAny_seqItems te rfl (wpAny_bind (wpAny_newTuple ?_)))
 have n : he.objs.size = s.heap.objs.size := by rw [se.1,sd.1,sc.1,sb.1,sa.1]
 have ze : IsZip he z TI TO .ellipsis := se.extBut _ _ D.TOz.symm (sd.extBut _ _ D.i2z.symm (sc.extBut _ _ D.TOz.symm (sb.extBut _ _ D.i1z.symm za)))
 have ke : ∀ c o,c ≠ z -> c ≠ TO -> c ≠ i1 -> c ≠ i2 -> s.heap.get? c = some o -> he.get? c = some o := fun c o c1 c2 c3 c4 e=>se.extBut _ _ c2 (sd.extBut _ _ c4 (sc.extBut _ _ c2 (sb.extBut _ _ c3 (sa.extBut _ _ c1 e))))
 have q1 : P1' he := g1'.but (g1'.but (g1'.but p1 sc D.TOi1.symm D.l1TO) sd D.i12 D.l1i2) se D.TOi1.symm D.l1TO
 have q2 : P2' he := g2'.but p2 se D.TOi2.symm D.l2TO
 have lz : z < he.objs.size := Heap.lt_size ze
 show wpAny _ _ (Builtin.SmallTypes.ownedTupleHandOut (.ref z) (.ref he.objs.size) >>= _) _ _ _
 refine wpAny_bind ?_
 unfold Builtin.SmallTypes.ownedTupleHandOut
 have zf : IsZip (he.push { cls := .type "tuple",data := .seq #[x,y] }) z TI TO .ellipsis := Heap.get?_push_of_some _ ze
 refine wpAny_bind (wpAny_setField_rec zf (by simp) fun hg zg sg=>?_)
 have zg : IsZip hg z TI TO (rawInt he.objs.size) := zg
 refine wpAny_setField_rec zg (by simp) fun hi zi si=>?_
 have zi : IsZip hi z TI TO (rawInt he.objs.size) := zi
 have up : ∀ c o,c ≠ z -> he.get? c = some o -> hi.get? c = some o := fun c o c1 e=>si.extBut _ _ c1 (sg.extBut _ _ c1 (Heap.get?_push_of_some _ e))
 have ti : IsPair hi he.objs.size x y := si.extBut _ _ (Nat.ne_of_gt lz) (sg.extBut _ _ (Nat.ne_of_gt lz) (Heap.get?_push_size _ rfl))
 have ni : hi.objs.size = he.objs.size + 1 := by rw [si.1,sg.1,Heap.size_push]
 rw [n] at zi ti ni
 refine wpAny_pure ⟨_,rfl,?_⟩
 show Q (.ref he.objs.size) _
 rw [n]
 exact hQ hi zi (up _ _ D.TOz te) (g1' _ _ (fun o e=>up _ o D.i1z e) (fun o e=>up _ o D.l1z e) q1) (g2' _ _ (fun o e=>up _ o D.i2z e) (fun o e=>up _ o D.l2z e) q2) ti ni (fun c o c1 c2 c3 c4 e=>up c o c1 (ke c o c1 c2 c3 c4 e)) (Nat.lt_of_lt_of_le hi1 (by rw [ni]; exact Nat.le_succ _))
theorem turnEnd {a b : Value} {Q : Fin -> Shared -> Prop} (hh : A.handled = none) (D : ZipApart z TI TO i1 i2 l1 l2) (g1 : Sees i1 l1 P1) (g2 : Sees i2 l2 P2)
  (hz : IsZip s.heap z TI TO .none) (hTI : IsPair s.heap TI (.ref i1) (.ref i2)) (hTO : IsPair s.heap TO a b) (h1 : P1 s.heap) (h2 : P2 s.heap) (hend : Halts i1 P1 \/ (∃ x P1',Steps i1 P1 P1' x) /\ Halts i2 P2)
  (hE : ∀ h' e,(∀ c o,c ≠ z -> c ≠ TO -> c ≠ i1 -> c ≠ i2 -> s.heap.get? c = some o -> h'.get? c = some o) -> (∃ o,h'.get? e = some o /\ o.cls = .type "StopIteration") -> E (.ref e) { s with heap := h' }) :
  wpAny (model prog w) A (Builtin.«zip.__next__» ⟨[.ref z],[]⟩) Q E s := by
 show wpAny _ _ (field (.ref z) 2 >>= _) _ _ _
 refine wpAny_bind (wpAny_field hz rfl (x := .bool false) rfl ?_); show wpAny _ _ (field (.ref z) 3 >>= _) _ _ _
 refine wpAny_bind (wpAny_field hz rfl (x := .ref TI) rfl (wpAny_bind (wpAny_seqItems hTI rfl ?_))); show wpAny _ _ (Builtin.SmallTypes.ownedTupleIsFree (.ref z) >>= _) _ _ _
 refine wpAny_bind ?_
 unfold Builtin.SmallTypes.ownedTupleIsFree
 refine wpAny_bind (wpAny_field hz rfl (x := .none) rfl (wpAny_pure ?_)); simp only [if_true]
 refine wpAny_bind (wpAny_rule (wpAny_bind (wpAny_field hz rfl (x := .ref TO) rfl (wpAny_bind (wpAny_setField_rec hz (by simp) fun ha za sa=>?_)))))
 have za : IsZip ha z TI TO .ellipsis := za
 refine wpAny_bind ?_; simp only [List.zipIdx_cons,List.zipIdx_nil,List.forIn_cons,List.forIn_nil]
 refine wpAny_bind (wpAny_bind (wpAny_onRaise ?_)); show wpAny _ _ (Builtin.SmallTypes.nextOf (.ref i1) >>= _) _ _ _
 rcases hend with hend | ⟨⟨x,P1',n1⟩,hend⟩
 ·refine wpAny_bind (hend _ _ _ _ _ _ hh (g1.but h1 sa D.i1z D.l1z) fun hb e sb he=>?_)
  obtain ⟨oe,hoe,hce⟩ := he
  have zb : IsZip hb z TI TO .ellipsis := sb _ _ D.i1z.symm za
  have ez : e ≠ z := fun x=>by subst x; rw [zb] at hoe; cases hoe; simp at hce
  exact wpAny_setField_rec zb (by simp) fun hc _ sc=>hE hc e (fun c o c1 _ c3 _ x=>sc.extBut _ _ c1 (sb _ _ c3 (sa.extBut _ _ c1 x))) ⟨oe,sc.extBut _ _ ez hoe,hce⟩
 ·refine wpAny_bind (n1 _ _ _ _ _ _ (g1.but h1 sa D.i1z D.l1z) fun hb p1 sb=>wpAny_pure ?_)
  have tb : IsPair hb TO a b := sb.extBut _ _ D.TOi1 (sa.extBut _ _ D.TOz hTO)
  refine wpAny_bind (wpAny_seqItems tb rfl (wpAny_bind (wpAny_updateSeq_pair tb fun hc tc sc=>wpAny_bind (wpAny_letGo (wpAny_pure ?_)))))
  refine wpAny_bind (wpAny_bind (wpAny_onRaise ?_)); show wpAny _ _ (Builtin.SmallTypes.nextOf (.ref i2) >>= _) _ _ _
  refine wpAny_bind (hend _ _ _ _ _ _ hh (g2.but (g2.but (g2.but h2 sa D.i2z D.l2z) sb D.i12.symm D.l2i1) sc D.TOi2.symm D.l2TO) fun hd e sd he=>?_)
  obtain ⟨oe,hoe,hce⟩ := he
  have zd : IsZip hd z TI TO .ellipsis := sd _ _ D.i2z.symm (sc.extBut _ _ D.TOz.symm (sb.extBut _ _ D.i1z.symm za))
  have ez : e ≠ z := fun x=>by subst x; rw [zd] at hoe; cases hoe; simp at hce
  exact wpAny_setField_rec zd (by simp) fun hf _ sf=>hE hf e (fun c o c1 c2 c3 c4 x=>sf.extBut _ _ c1 (sd _ _ c4 (sc.extBut _ _ c2 (sb.extBut _ _ c3 (sa.extBut _ _ c1 x))))) ⟨oe,sf.extBut _ _ ez hoe,hce⟩
theorem nextItem {x y a b : Value} {Q : Option Value -> Shared -> Prop} (D : ZipApart z TI TO i1 i2 l1 l2) (g1 : Sees i1 l1 P1) (g1' : Sees i1 l1 P1') (g2 : Sees i2 l2 P2) (g2' : Sees i2 l2 P2') (n1 : Steps i1 P1 P1' x) (n2 : Steps i2 P2 P2' y)
  (hz : IsZip s.heap z TI TO .none) (hTI : IsPair s.heap TI (.ref i1) (.ref i2)) (hTO : IsPair s.heap TO a b) (h1 : P1 s.heap) (h2 : P2 s.heap) (hi1 : i1 < s.heap.objs.size) (hi2 : i2 < s.heap.objs.size)
  (hQ : ∀ h',IsZip h' z TI TO (rawInt s.heap.objs.size) -> IsPair h' TO x y -> P1' h' -> P2' h' -> IsPair h' s.heap.objs.size x y ->
   (∀ c o,c ≠ z -> c ≠ TO -> c ≠ i1 -> c ≠ i2 -> s.heap.get? c = some o -> h'.get? c = some o) -> Q (some (.ref s.heap.objs.size)) { s with heap := h' }) : wpAny (model prog w) A (pyNext (.ref z)) Q E s := by
 have hT : s.TypeIs (.ref z) "zip" := ⟨_,hz,rfl⟩
 unfold pyNext
 refine wpAny_bind (wpAny_attempt (wpAny_callSpecial?_slot (name := Str.ofString "__next__") hT F.slot_zip_next (wpAny_call_entry F.slot_zip_next hT F.entry_zip_next ?_ (F.args_zip_next_1 _))))
 exact turnItem D g1 g1' g2 g2' n1 n2 hz hTI hTO h1 h2 (fun h' a1 a2 a3 a4 a5 _ a7 _=>wpAny_pure (hQ h' a1 a2 a3 a4 a5 a7)) hi1 hi2
theorem nextEnd {a b : Value} {Q : Option Value -> Shared -> Prop} (hh : A.handled = none) (D : ZipApart z TI TO i1 i2 l1 l2) (g1 : Sees i1 l1 P1) (g2 : Sees i2 l2 P2)
  (hz : IsZip s.heap z TI TO .none) (hTI : IsPair s.heap TI (.ref i1) (.ref i2)) (hTO : IsPair s.heap TO a b) (h1 : P1 s.heap) (h2 : P2 s.heap) (hend : Halts i1 P1 \/ (∃ x P1',Steps i1 P1 P1' x) /\ Halts i2 P2)
  (hQ : ∀ h',(∀ c o,c ≠ z -> c ≠ TO -> c ≠ i1 -> c ≠ i2 -> s.heap.get? c = some o -> h'.get? c = some o) -> Q none { s with heap := h' }) : wpAny (model prog w) A (pyNext (.ref z)) Q E s := by
 have hT : s.TypeIs (.ref z) "zip" := ⟨_,hz,rfl⟩
 unfold pyNext
 refine wpAny_bind (wpAny_attempt (wpAny_callSpecial?_slot (name := Str.ofString "__next__") hT F.slot_zip_next (wpAny_call_entry F.slot_zip_next hT F.entry_zip_next (turnEnd hh D g1 g2 hz hTI hTO h1 h2 hend fun h' e hk he=>?_) (F.args_zip_next_1 _))))
 obtain ⟨o,ho,hc⟩ := he
 exact wpAny_bind (wpAny_isInstance (T := "StopIteration") (b := true) ⟨o,ho,hc⟩ isSubtype_stop (wpAny_pure (hQ _ hk)))
end
abbrev hp1 (h : Heap) (l1 : Addr) : Heap := h.push { cls := .type "tuple_iterator",data := .fields #[.ref l1,.int 0 0] }
abbrev hp2 (h : Heap) (l1 l2 : Addr) : Heap := (hp1 h l1).push { cls := .type "list_iterator",data := .fields #[.ref l2,.int 0 0] }
abbrev hp3 (h : Heap) (l1 l2 : Addr) : Heap := (hp2 h l1 l2).push { cls := .type "tuple",data := .seq #[.ref h.objs.size,.ref (hp1 h l1).objs.size] }
abbrev hp4 (h : Heap) (l1 l2 : Addr) : Heap := (hp3 h l1 l2).push { cls := .type "tuple",data := .seq #[.none,.none] }
abbrev hp5 (h : Heap) (l1 l2 : Addr) : Heap := (hp4 h l1 l2).push { cls := .type "zip",data := .fields #[.none,.bool false,.bool false,.ref (hp2 h l1 l2).objs.size,.ref (hp3 h l1 l2).objs.size] }
theorem meetsNew (l1 l2 : Addr) (xs ys : Array Value) : Meets (Builtin.«zip.__new__» ⟨[.type "zip",.ref l1,.ref l2],[]⟩) (fun _ R s=>s.heap.IsTuple l1 xs /\ s.heap.IsList l2 ys /\ R (.ok (.ret (.ref (hp4 s.heap l1 l2).objs.size))) { s with heap := hp5 s.heap l1 l2 }) :=
 .of_wp fun prog w A R s h=>by
  obtain ⟨hp,g,d,tk,os⟩ := s; obtain ⟨hl1,hl2,h⟩ := h
  have hsub := sub_zip
  have t1 : Heap.IsTuple (Shared.heap ⟨hp,g,d,tk,os⟩) l1 xs := hl1
  have t2 : Heap.IsList (Shared.heap ⟨hp.push { cls := .type "tuple_iterator",data := .fields #[.ref l1,.int 0 0] },g,d,tk,os⟩) l2 ys := Heap.IsList.push hl2 _
  wp_walk using wpAny_pyIter_tuple t1,wpAny_pyIter_list t2
  exact ⟨_,rfl,h⟩
theorem callNew {prog : Program} {w : World} {A : Around} {E : Value -> Shared -> Prop} {s : Shared} {l1 l2 : Addr} {xs ys : Array Value} {Q : Value -> Shared -> Prop} (hl1 : s.heap.IsTuple l1 xs) (hl2 : s.heap.IsList l2 ys)
  (h : ∀ h',IsZip h' (s.heap.objs.size + 4) (s.heap.objs.size + 2) (s.heap.objs.size + 3) .none -> IsPair h' (s.heap.objs.size + 2) (.ref s.heap.objs.size) (.ref (s.heap.objs.size + 1)) -> IsPair h' (s.heap.objs.size + 3) .none .none ->
   h'.IsTupleIter s.heap.objs.size l1 0 -> h'.IsListIter (s.heap.objs.size + 1) l2 0 -> (∀ c o,s.heap.get? c = some o -> h'.get? c = some o) -> Q (.ref (s.heap.objs.size + 4)) { s with heap := h' }) :
  wpAny (model prog w) A (call (.type "zip") [.ref l1,.ref l2]) Q E s := by
 refine callType_new F.called_zip (by decide) (F.typeCall_zip_2 _ _) (F.newCall_zip_2 _ _) (fun obj=>F.args_object_init_3 obj _ _) F.entry_zip_new (meetsNew l1 l2 xs ys) ⟨hl1,hl2,?_⟩
 have z1 : (hp1 s.heap l1).objs.size = s.heap.objs.size + 1 := Heap.size_push ..
 have z2 : (hp2 s.heap l1 l2).objs.size = s.heap.objs.size + 2 := by rw [Heap.size_push,z1]
 have z3 : (hp3 s.heap l1 l2).objs.size = s.heap.objs.size + 3 := by rw [Heap.size_push,z2]
 have z4 : (hp4 s.heap l1 l2).objs.size = s.heap.objs.size + 4 := by rw [Heap.size_push,z3]
 have up : ∀ (h0 : Heap) (o : Obj) c q,h0.get? c = some q -> (h0.push o).get? c = some q := fun h0 o c q e=>Heap.get?_push_of_some _ e
 have g5 : (hp5 s.heap l1 l2).get? (hp4 s.heap l1 l2).objs.size = some _ := Heap.get?_push_size _ rfl
 have g4 : (hp5 s.heap l1 l2).get? (hp3 s.heap l1 l2).objs.size = some _ := up _ _ _ _ (Heap.get?_push_size _ rfl)
 have g3 : (hp5 s.heap l1 l2).get? (hp2 s.heap l1 l2).objs.size = some _ := up _ _ _ _ (up _ _ _ _ (Heap.get?_push_size _ rfl))
 have g2 : (hp5 s.heap l1 l2).get? (hp1 s.heap l1).objs.size = some _ := up _ _ _ _ (up _ _ _ _ (up _ _ _ _ (Heap.get?_push_size _ rfl)))
 have g1 : (hp5 s.heap l1 l2).get? s.heap.objs.size = some _ := up _ _ _ _ (up _ _ _ _ (up _ _ _ _ (up _ _ _ _ (Heap.get?_push_size _ rfl))))
 show _ /\ _
 rw [z2,z3,z4] at g5
 rw [z1,z2] at g3
 rw [z3] at g4
 rw [z1] at g2
 rw [z4]
 exact ⟨⟨_,g5,rfl⟩,h _ g5 g3 g4 ⟨_,g1,rfl,rfl⟩ ⟨_,g2,rfl,rfl⟩ fun c o x=>up _ _ _ _ (up _ _ _ _ (up _ _ _ _ (up _ _ _ _ (up _ _ _ _ x))))⟩
def ItzM (K : PySem.W.Frag) (a b : Addr) : It :=
 ⟨fun i H=>∃ (xs ys : List V) (x y : V),(SqT K H a xs /\ SqL K H b ys) /\ xs[i]? = some x /\ ys[i]? = some y,
  fun i H v H'=>∃ T x y,v = .ref T /\ H T = none /\ H' = upd H T (.tup [x,y]) /\ (∀ xs,SqT K H a xs -> xs[i]? = some x) /\ ∀ ys,SqL K H b ys -> ys[i]? = some y,
  fun i H=>∃ xs ys : List V,(SqT K H a xs /\ SqL K H b ys) /\ (xs.length <= i \/ ys.length <= i)⟩
theorem inFive {z TI TO i1 i2 c : Addr} (h : c ∈ [z,TI,TO,i1,i2]) : c = z \/ c = TI \/ c = TO \/ c = i1 \/ c = i2 := by simpa using h
theorem turnM {P : Program} {w : World} {K : PySem.W.Frag} {elts : List Expr} {kk : Nat} {tpos : Pos} {a b z TI TO i1 i2 : Addr} (D : ZipApart z TI TO i1 i2 a b) :
  Turn P w K (.Tuple elts kk tpos) (ItzM K a b) [z,TI,TO,i1,i2] z (fun i h=>IsZip h z TI TO .none /\ IsPair h TI (.ref i1) (.ref i2) /\ (∃ x y,IsPair h TO x y) /\ h.IsTupleIter i1 a i /\ h.IsListIter i2 b i) where
 mem := List.mem_cons_self
 obj := fun i h st c hc=>by
  obtain ⟨hz,hTI,⟨x,y,hTO⟩,⟨o1,e1,_,d1⟩,⟨o2,e2,_,d2⟩⟩ := st
  rcases inFive hc with rfl | rfl | rfl | rfl | rfl
  ·exact ⟨_,hz,fun v q=>nomatch q⟩
  ·exact ⟨_,hTI,fun v q=>nomatch q⟩
  ·exact ⟨_,hTO,fun v q=>nomatch q⟩
  ·exact ⟨o1,e1,fun v q=>by rw [d1] at q; cases q⟩
  ·exact ⟨o2,e2,fun v q=>by rw [d2] at q; cases q⟩
 keep := fun i h h' st k=>by
  obtain ⟨hz,hTI,⟨x,y,hTO⟩,h1,h2⟩ := st
  exact ⟨k _ (by simp) _ hz,k _ (by simp) _ hTI,⟨x,y,k _ (by simp) _ hTO⟩,h1.at fun o q=>k _ (by simp) o q,h2.at fun o q=>k _ (by simp) o q⟩
 item := by
  intro X hP hw hK hc i pins s σ H E I hf st hg
  subst hP hw hK
  obtain ⟨hz,hTI,⟨x0,y0,hTO⟩,h1,h2⟩ := st
  obtain ⟨xs,ys,x,y,⟨hqx,hqy⟩,hx,hy⟩ := hg
  obtain ⟨its,rv,p,_⟩ := I.tuple hqx
  obtain ⟨its2,rv2,p2,_⟩ := I.list hqy
  obtain ⟨u,hu,ru⟩ := rv.get hx
  obtain ⟨u2,hu2,ru2⟩ := rv2.get hy
  have hzl : z < s.heap.objs.size := Heap.lt_size hz
  have l1 : i1 < s.heap.objs.size := by obtain ⟨_,e,_⟩ := h1; exact Heap.lt_size e
  have l2 : i2 < s.heap.objs.size := by obtain ⟨_,e,_⟩ := h2; exact Heap.lt_size e
  refine nextItem (x := u) (y := u2) (P1 := TP i1 a i its.toArray) (P2 := LP i2 b i its2.toArray) D TP.sees TP.sees LP.sees LP.sees (TP.steps D.l1i1 (by simpa using hu)) (LP.steps D.l2i2 (by simpa using hu2)) hz hTI hTO ⟨h1,p⟩ ⟨h2,p2.isList⟩ l1 l2 fun h' z' TO' k1 k2 hT hk=>?_
  refine ⟨_,rfl,wpAny_letOwnedTupleGo_zip (s := { s with heap := h' }) z' fun h'' z'' sb=>?_⟩
  have t2 : h''.get? s.heap.objs.size = some { cls := .type "tuple",data := .seq #[u,u2] } := (sb.2 _ (Nat.ne_of_gt hzl)).trans hT
  have new : ObjOk X.prog X.w (upd H s.heap.objs.size (.tup [x,y])) h'' s.heap.objs.size (.tup [x,y]) := ⟨by show 2 <= sizeLine; decide,[u,u2],.cons ru (.cons ru2 .nil),⟨_,t2,rfl,_,rfl⟩⟩
  have I1 : Inv X pins σ (upd H s.heap.objs.size (.tup [x,y])) { s with heap := h'' } := I.turnedNew (t' := s.toks) (ch := [z,TI,TO,i1,i2]) (fun c o hb q=>by
   simp only [List.mem_cons,List.not_mem_nil,or_false,not_or] at hb
   exact (sb.2 c hb.1).trans (hk c o hb.1 hb.2.2.1 hb.2.2.2.1 hb.2.2.2.2 q)) hf (Nat.le_refl _) new
  refine ⟨.ref s.heap.objs.size,_,I1,rfl,⟨_,x,y,rfl,I.hok.fresh (Nat.le_refl _),rfl,fun l hl=>by rw [I.tuple_inj hl hqx]; exact hx,fun l hl=>by rw [I.list_inj hl hqy]; exact hy⟩,⟨z'',(sb.2 _ D.TIz).trans (hk _ _ D.TIz D.TITO D.TIi1 D.TIi2 hTI),⟨u,u2,(sb.2 _ D.TOz).trans TO'⟩,k1.1.at fun o q=>(sb.2 _ D.i1z).trans q,k2.1.at fun o q=>(sb.2 _ D.i2z).trans q⟩,fun c hcm=>?_⟩
  have hlt : c < s.heap.objs.size := by
   rcases inFive hcm with rfl | rfl | rfl | rfl | rfl
   ·exact hzl
   ·exact Heap.lt_size hTI
   ·exact Heap.lt_size hTO
   ·exact l1
   ·exact l2
  rw [upd_ne (Nat.ne_of_lt hlt)]
  exact (hf c hcm).1
 done := by
  intro X hP hw hK hc i pins s σ H E I hf st hg
  subst hP hw hK
  obtain ⟨hz,hTI,⟨x0,y0,hTO⟩,h1,h2⟩ := st
  obtain ⟨xs,ys,⟨hqx,hqy⟩,hend⟩ := hg
  obtain ⟨its,rv,p,_⟩ := I.tuple hqx
  obtain ⟨its2,rv2,p2,_⟩ := I.list hqy
  have m1 := rv.length
  have m2 := rv2.length
  refine nextEnd (P1 := TP i1 a i its.toArray) (P2 := LP i2 b i its2.toArray) (I.ok.hd hc) D TP.sees LP.sees hz hTI hTO ⟨h1,p⟩ ⟨h2,p2.isList⟩ ?_ fun h' hk=>⟨rfl,I.turnedL (t' := s.toks) (ch := [z,TI,TO,i1,i2]) (fun c o hb q=>by
   simp only [List.mem_cons,List.not_mem_nil,or_false,not_or] at hb
   exact hk c o hb.1 hb.2.2.1 hb.2.2.2.1 hb.2.2.2.2 q) hf⟩
  by_cases q : its.length <= i
  ·exact .inl (TP.halts (by first | (simp; done) | (simp; omega)))
  ·exact .inr ⟨⟨its[i]'(by omega),_,TP.steps D.l1i1 (by first | (simp; done) | (simp; omega))⟩,LP.halts (by first | (simp; done) | (simp; omega))⟩
 self := fun A i s Q E st h=>wpAny_pyIter_zip st.1 h
def iZipM (K : PySem.W.Frag) (ta : TA) : TI := fun σ H R=>iZipA K ta σ H R \/ ta σ H fun vs H1=>∃ a b xs ys,vs = [.ref a,.ref b] /\ SqT K H1 a xs /\ SqL K H1 b ys /\ R (ItzM K a b) H1
theorem pi_zipM0 {X : Cx} {e e2 : Expr} {ta : TA} {p pos tpos : Pos} {elts : List Expr} {kk : Nat} (hg : Gl X "zip") (hm : X.mg "zip" = none) (ha : PA X [e,e2] ta)
  (hs : starEach [e,e2] X.env = (false,eval e X.env) :: starEach [e2] X.env := by rfl) (hpl : (backTo pos (starEach [e2] X.env)).any (·.1) = false := by rfl) :
  PI X (.Tuple elts kk tpos) (.Call (.Name "zip" p) [e,e2] [] pos) (fun σ H R=>ta σ H fun vs H1=>∃ a b xs ys,vs = [.ref a,.ref b] /\ SqT X.K H1 a xs /\ SqL X.K H1 b ys /\ R (ItzM X.K a b) H1) := by
 refine ⟨fun pins s σ H R I h=>Call_ (ld_blt I hg hm PyProof.Rows.boot_zip (PyProof.Rows.callWith_type1 (thn (ha.run pos pins s σ H _ I h) fun us s1 ⟨vs,H1,I1,r1,q1⟩=>?_) hs hpl))⟩
 obtain ⟨a,b,xs,ys,rfl,hqx,hqy,q⟩ := q1
 obtain ⟨u1,u2,rfl,r1,r2⟩ := vals2 r1
 cases (show u1 = Value.ref a from r1)
 cases (show u2 = Value.ref b from r2)
 obtain ⟨its,rv,p1,_⟩ := I1.tuple hqx
 obtain ⟨its2,rv2,p2,_⟩ := I1.list hqy
 obtain ⟨o1,ho1,_⟩ := id p1
 refine callNew (show s1.heap.IsTuple a its.toArray from p1) p2.isList fun h' hz hTI hTO h1 h2 hk=>wpAny_pyIter_zip hz ?_
 have I2 : Inv X pins σ H1 { s1 with heap := h' } := I1.kept (t' := s1.toks) hk
 refine ⟨s1.heap.objs.size + 4,[s1.heap.objs.size + 4,s1.heap.objs.size + 2,s1.heap.objs.size + 3,s1.heap.objs.size,s1.heap.objs.size + 1],_,_,H1,rfl,I2,turnM (PySem.W.ktu_apart s1.heap.objs.size a b (Heap.lt_size ho1) p2.lt),⟨hz,hTI,⟨_,_,hTO⟩,h1,h2⟩,fun c hcm=>?_,q⟩
 have hle : s1.heap.objs.size <= c := by rcases inFive hcm with rfl | rfl | rfl | rfl | rfl <;> omega
 exact I1.fpOk hle (I1.hok.fresh hle)
theorem kzipM {X : Cx} {K : PySem.W.Frag} {e e2 : Expr} {ta : TA} {p pos tpos : Pos} {elts : List Expr} {kk : Nat} (h : X.K = K) (hg : Gl X "zip") (hm : X.mg "zip" = none) (ha : PA X [e,e2] ta)
  (hs : starEach [e,e2] X.env = (false,eval e X.env) :: starEach [e2] X.env := by rfl) (hpl : (backTo pos (starEach [e2] X.env)).any (·.1) = false := by rfl) :
  PI X (.Tuple elts kk tpos) (.Call (.Name "zip" p) [e,e2] [] pos) (iZipM K ta) := by
 letI : DL.TabL := ⟨[],List.nodup_nil⟩
 exact h ▸ DL.pi_or (pi_zipA hg hm ha hs hpl) (pi_zipM0 hg hm ha hs hpl)
end ZM
namespace DL
open PySem PySem.Spec PyProof.Rows L2 SrtK LowX ZM RZ
variable [TabL]
section
variable {K : PySem.W.Frag} {ts : TA} {ρ : Env}
theorem yl_zipM {G : Hp} {a b : Addr} {vs ws : List V} {xs ys : List D} (h1 : G a = some (.tup vs)) (h2 : Reps K G vs xs) (h3 : G b = some (.lst ws)) (h4 : Reps K G ws ys) : Yields K G (ItzM K a b) (zipD xs ys) where
 go := fun F G2 H2 σ ρ i e R hi=>by
  rw [zipD_len] at hi
  have l1 : i < vs.length := by rw [h2.length]; omega
  have l2 : i < ws.length := by rw [h4.length]; omega
  exact ⟨vs,ws,vs[i],ws[i],⟨R.wd.g.sqT (e _ _ h1),.inl (.inl (R.wd.g _ _ (e _ _ h3)))⟩,List.getElem?_eq_getElem l1,List.getElem?_eq_getElem l2⟩
 stop := fun F G2 H2 σ ρ e R=>⟨vs,ws,⟨R.wd.g.sqT (e _ _ h1),.inl (.inl (R.wd.g _ _ (e _ _ h3)))⟩,by rw [zipD_len,h2.length,h4.length]; omega⟩
 yld := fun F G2 H2 σ ρ i x H3 e R hi y=>by
  obtain ⟨T,u,v,rfl,hT,rfl,y1,y2⟩ := y
  obtain ⟨d1,e1,r1⟩ := h2.getV (y1 vs (R.wd.g.sqT (e _ _ h1)))
  obtain ⟨d2,e2,r2⟩ := h4.getV (y2 ws (.inl (.inl (R.wd.g _ _ (e _ _ h3)))))
  have en := Ex.new (o := .tup [u,v]) (R.wd.g.none hT)
  refine ⟨_,.tup [d1,d2],en,R.new hT,?_,.tup upd_same (.cons ((r1.mono e).mono en) (.cons ((r2.mono e).mono en) .nil))⟩
  unfold zipD
  rw [List.getElem?_zipWith,e1,e2]
theorem ei_zipM {Q : List D -> Env -> Prop} (h : EvA K ts ρ fun ds ρ1=>∃ xs ys,(ds = [.lst xs,.lst ys] \/ ds = [.tup xs,.tup ys]) /\ Q (zipD xs ys) ρ1) : EvI K (iZipM K ts) ρ Q := fun F G H σ R R' k=>.inl (ei_zip h F G H σ R R' k)
theorem ei_zipTL {Q : List D -> Env -> Prop} (h : EvA K ts ρ fun ds ρ1=>∃ xs ys,ds = [.tup xs,.lst ys] /\ Q (zipD xs ys) ρ1) : EvI K (iZipM K ts) ρ Q := fun F G H σ R R' k =>
 .inr (h F G H σ R _ fun vs ds ρ1 G1 H1 e1 R1 hv q=>by
  obtain ⟨xs,ys,rfl,q⟩ := q
  obtain ⟨v1,v2,rfl,r1,r2⟩ := hv.two
  obtain ⟨a,ws1,rfl,a1,a2⟩ := rep_tup r1
  obtain ⟨b,ws2,rfl,b1,b2⟩ := rep_lst r2
  exact ⟨a,b,ws1,ws2,rfl,R1.wd.g.sqT a1,.inl (.inl (R1.wd.g _ _ b1)),k _ _ ρ1 G1 H1 e1 R1 (yl_zipM a1 a2 b1 b2) q⟩)
end
end DL
namespace SG
open PySem PySem.Spec PyProof.Rows L2 SrtK
section
variable {X : Cx}
def rLenDT : List V -> Hp -> VK -> Prop := fun xs H Q=>∃ (a : Addr) (kvs : List (KK × V)),xs = [.ref a] /\ Rd H a (.dT kvs) /\ Q (.int kvs.length) H
theorem clenT : CallR X (.builtin "len") rLenDT := by
 intro pins s σ H xs us Q I r h
 obtain ⟨d,kvs,rfl,hd,q⟩ := h
 rw [Vals.ref1 r]
 obtain ⟨z,hs,ks,rel,dd⟩ := dt_rd I.hok hd
 have l := Paired.length rel
 refine call_len_dictH hs dd (by rw [<- l]; rw [sizeLine_eq] at z; omega) ?_
 rw [<- l]
 exact ⟨.int kvs.length,H,I.tok _,⟨_,rfl⟩,q⟩
def rIsiDT : List V -> Hp -> VK -> Prop := fun xs H Q=>∃ (a : Addr) (n : String) (kvs : List (KK × V)) (b : Bool),xs = [.ref a,.ty n] /\ Rd H a (.dT kvs) /\ kitB "dict" n = some b /\ Q (.bl b) H
theorem cisiT : CallR X (.builtin "isinstance") rIsiDT := by
 intro pins s σ H xs us Q I r h
 obtain ⟨a,n,kvs,b,rfl,hd,e,q⟩ := h
 obtain ⟨u1,u2,rfl,r1,r2⟩ := vals2 r
 cases (show u1 = Value.ref a from r1)
 cases (show u2 = Value.type n from r2)
 obtain ⟨_,_,xs,_,o,es,ep,h1,h2,_⟩ := (show ObjOk X.prog X.w H s.heap a (.dT kvs) from rd_of I.hok hd)
 exact PySem.W.kia_one (PySem.W.kitx_dict (K := X.K)) I.kIn ⟨o,h1,h2.1⟩ (kit_ty e) (fun z=>nomatch z) fun tk=>⟨.bl b,H,I.tok tk,rfl,q⟩
end
end SG
namespace DL
open PySem PySem.Spec PyProof.Rows L2 SrtK LowX SG
variable [TabL]
section
variable {K : PySem.W.Frag} {te ta tb td ty tv tk : TE} {tt : TT} {ts : TA} {t : TS} {ρ : Env} {E : EndD} {Q : D -> Env -> Prop}
theorem opa_lenDT {ps : List (List Key × D)} (q : Q (.int ps.length) ρ) : OpA K rLenDT [.dt ps] ρ Q := fun F G H σ R vs hv Q' k=>by
 obtain ⟨v,rfl,h⟩ := hv.one
 obtain ⟨a,kvs,rfl,h1,h2,h3⟩ := rep_dt h
 have hlen : kvs.length = ps.length := by have := congrArg List.length h2; simpa using this
 refine ⟨a,kvs,rfl,R.wd.g.rdx.1 _ _ trivial h1,?_⟩
 rw [hlen]
 exact k _ _ ρ G H (Ex.refl G) R (.int _) q
theorem ew_isiDT {n : String} (hn : n ∈ tyNames) (h : EvW K te ρ fun d ρ1=>(∃ ps,d = .dt ps) /\ Q (.bl (tyIs "dict" n)) ρ1) : EvW K (tCB rIsiDT (tCons te (tCons (tC (.ty n)) tNil))) ρ Q := fun F G H σ R Q' k =>
 h F G H σ R _ fun v d ρ1 G1 H1 e1 R1 hv q=>by
  obtain ⟨⟨ps,rfl⟩,q⟩ := q
  obtain ⟨a,kvs,rfl,h1,h2,h3⟩ := rep_dt hv
  exact ⟨a,n,kvs,_,rfl,R1.wd.g.rdx.1 _ _ trivial h1,kit_names "dict" (by simp) n hn,k _ _ ρ1 G1 H1 e1 R1 (.bl _) q⟩
theorem ew_dnotinT (h : EvW K ty ρ fun y ρ1=>EvW K td ρ1 fun x ρ2=>∃ k ps,y = .tup (k.map kD) /\ x = .dt ps /\ Q (.bl (!(dget ps k).isSome)) ρ2) : EvW K (tDNotIn ty td) ρ Q := fun F G H σ R Q' k =>
 h F G H σ R _ fun v y ρ1 G1 H1 e1 R1 hv q1=>q1 F G1 H1 σ R1 _ fun w x ρ2 G2 H2 e2 R2 hw q2=>by
  obtain ⟨kk,ps,rfl,rfl,q⟩ := q2
  obtain ⟨a,kvs,rfl,h1,h2,h3⟩ := rep_dt hw
  obtain ⟨b,rfl,hb⟩ := rep_kT (hv.mono e2)
  refine ⟨a,valV kvs kk,rfl,.inr ⟨kvs,kk,b,R2.wd.g.rdx.1 _ _ trivial h1,rfl,R2.wd.g _ _ hb,rfl⟩,?_⟩
  have e : (valV kvs kk).isSome = (dget ps kk).isSome := by
   rcases dk_look kk h2 h3 with ⟨z1,z2⟩ | ⟨_,_,z1,z2,_⟩ <;> rw [z1,z2] <;> rfl
  rw [e]
  exact k _ _ ρ2 G2 H2 (e1.trans e2) R2 (.bl _) q
theorem dcT_core {J : It} {ds : List D} {g : TG} {vs : List Nat} {F G1 H1 : Hp} {σ : L2.St} {ρ1 : Env} (R1 : RE K F G1 H1 σ ρ1) (Y : Yields K G1 J ds) (hv0 : ownFree ρ1 vs = true) (hlen : ds.length <= 90000) (P : Nat -> List (List Key × D) -> Prop) (p0 : P 0 [])
   (turn : ∀ i d acc,ds[i]? = some d -> P i acc -> GV K g vs d (wipeE ρ1 vs) fun ρ2=>EvT K tt ρ2 fun b ρ3=>ρ3 = ρ2 /\ if b = true then EvW K tk ρ2 fun y ρ4=>ρ4 = ρ2 /\ EvW K tv ρ2 fun z ρ5=>ρ5 = ρ2 /\ ∃ k,y = .tup (k.map kD) /\ P (i + 1) (dput acc k z) else P (i + 1) acc)
   (fin : ∀ acc,P ds.length acc -> Q (.dt acc) ρ1) (Q' : VK) (k : ∀ p d ρ' G' H',Ex G1 G' -> RE K F G' H' σ ρ' -> G' p = none -> F p = none -> p ∉ ownA ρ' -> OwnR K G' (H' p) d -> Q d ρ' -> Q' (.ref p) H') : tDcT (fun _ H R=>R J H) g tt tk tv vs σ H1 Q' := fun Dd hD=>by
  have hv := ownFree_at hv0
  have hF0 : F Dd = none := R1.wd.f.none hD
  have hO : Dd ∉ ownA ρ1 := ownA_fresh R1 hD
  refine ⟨fun i m H'=>m + i = ds.length /\ ∃ acc accV G',Ex G1 G' /\ RE K F G' H' σ ρ1 /\ G' Dd = none /\ H' Dd = some (.dT accV) /\ accV.map (·.1) = acc.map (·.1) /\ Reps K G' (accV.map (·.2)) (acc.map (·.2)) /\ acc.length <= i /\ P i acc,
   ⟨ds.length,rfl,[],[],G1,Ex.refl _,R1.alone hD,R1.wd.g.none hD,upd_same,rfl,.nil,Nat.le_refl _,p0⟩,?_⟩
  rintro i m H' ⟨hm,acc,accV,G',e',R',hG,hH,rk,ra,hl,p⟩
  have Rf := R'.frm hH hG hO ⟨fun _ z=>(nomatch z),fun _ z=>(nomatch z)⟩
  by_cases hi : i < ds.length
  ·refine .inr ⟨Y.go _ G' H' σ ρ1 i e' Rf hi,fun H2=>∃ acc accV G2,Ex G1 G2 /\ RE K F G2 H2 σ ρ1 /\ G2 Dd = none /\ H2 Dd = some (.dT accV) /\ accV.map (·.1) = acc.map (·.1) /\ Reps K G2 (accV.map (·.2)) (acc.map (·.2)) /\ acc.length <= i + 1 /\ P (i + 1) acc,fun H2 z=>⟨m - 1,by omega,by omega,z⟩,fun x H2 y=>?_⟩
   obtain ⟨G2,d,e2,R2,hd,hx⟩ := Y.yld _ G' H' σ ρ1 i x H2 e' Rf hi y
   refine turn i d acc hd p _ G2 H2 _ x (R2.wipe vs) hx _ fun σ2 ρ2 l2 s2 R3 w3=>?_
   refine ⟨?_,w3 _ G2 H2 σ2 R3 _ fun b ρ3 G4 H4 e4 R4 w4=>?_⟩
   ·have e0 : L2.wipe (L2.wipe σ vs) vs = L2.wipe σ vs := wipe_eq (L2.wipe_length σ vs) fun i hi=>wipe_at hi
    rw [wipe_eq l2 fun i hi=>(s2 i hi).1,e0]
   obtain ⟨rfl,w4⟩ := w4
   have back : ∀ {G5 H5 : Hp},Ex G2 G5 -> RE K (upd F Dd (.dT accV)) G5 H5 σ2 ρ3 -> RE K F G5 H5 σ ρ1 /\ H5 Dd = some (.dT accV) /\ G5 Dd = none := fun {G5 H5} e5 R5=>by
    obtain ⟨R6,h6,g6⟩ := R5.unfrm hF0
    refine ⟨⟨R6.wd,Slots.join (e2.trans e5) R'.sl R6.sl (fun j r hr ho=>?_),R'.nd⟩,h6,g6⟩
    have hj := hv j r hr ho
    rw [(s2 j hj).1,(s2 j hj).2,wipe_at hj,wipeE_at hj]
    exact ⟨hr,rfl⟩
   cases b with
   | true =>
    refine w4 _ G4 H4 σ2 R4 _ fun v yv ρ5 G5 H5 e5 R5 hvy w5=>?_
    obtain ⟨rfl,w5⟩ := w5
    refine w5 _ G5 H5 σ2 R5 _ fun v2 zv ρ6 G6 H6 e6 R6 hvz w6=>?_
    obtain ⟨rfl,kk,rfl,w6⟩ := w6
    obtain ⟨R7,h7,g7⟩ := back ((e4.trans e5).trans e6) R6
    have e9 : Ex G' G6 := ((e2.trans e4).trans e5).trans e6
    obtain ⟨z1,z2⟩ := put_rel (k := kk) rk (ra.mono e9) hvz
    obtain ⟨ka,rfl,hka⟩ := rep_kT (hvy.mono e6)
    have hll : accV.length = acc.length := by have := congrArg List.length rk; simpa using this
    refine ⟨accV,kk,ka,rfl,R7.wd.g _ _ hka,h7,by rw [hll]; exact bigl (by omega),dput acc kk zv,putK accV kk v2,G6,e'.trans e9,R7.aloneU g7 hF0 hO h7 ⟨fun _ z=>(nomatch z),fun _ z=>(nomatch z)⟩,g7,upd_same,z1,z2,by have := dput_le acc kk zv; omega,w6⟩
   | false =>
    obtain ⟨R6,h6,g6⟩ := back e4 R4
    exact ⟨acc,accV,G4,(e'.trans e2).trans e4,R6,g6,h6,rk,ra.mono (e2.trans e4),by omega,w4⟩
  ·have ei : i = ds.length := by omega
   subst ei
   exact .inl ⟨Y.stop _ G' H' σ ρ1 e' R',k Dd (.dt acc) ρ1 G' H' e' R' hG hF0 hO ⟨accV,hH,rk,ra⟩ (fin acc p)⟩
theorem en_dcTE {wi : TE -> TI} {g : TG} {vs : List Nat} {d0 : D} {ds : List D} (hold : HeldE K te ρ d0) (hd : d0.isDict = true) (W : WalkE K wi d0 ds) (hv0 : ownFree ρ vs = true) (hlen : ds.length <= 90000) (P : Nat -> List (List Key × D) -> Prop) (p0 : P 0 [])
   (turn : ∀ i d acc,ds[i]? = some d -> P i acc -> GV K g vs d (wipeE ρ vs) fun ρ2=>EvT K tt ρ2 fun b ρ3=>ρ3 = ρ2 /\ if b = true then EvW K tk ρ2 fun y ρ4=>ρ4 = ρ2 /\ EvW K tv ρ2 fun z ρ5=>ρ5 = ρ2 /\ ∃ k,y = .tup (k.map kD) /\ P (i + 1) (dput acc k z) else P (i + 1) acc)
   (fin : ∀ acc,P ds.length acc -> Q (.dt acc) ρ) : EvN K (fun σ H Q=>tLockE (tDcT (wi te) g tt tk tv vs) σ H Q \/ tDcT (wi te) g tt tk tv vs σ H Q) ρ Q := fun F G H σ R Q' k=>by
 obtain ⟨a,hv,ht⟩ := hold F G H σ R
 obtain ⟨a',u,e,hu,hcase⟩ := dict_at hv hd
 cases e
 rcases hcase with ⟨hG,fz⟩ | ⟨od,fz⟩
 ·refine .inl ⟨a,u,R.wd.g _ _ hG,hu.mu,fun od=>?_⟩
  have x := rdx_lockU (od := od) hu hG
  have R1 := R.relock (u' := .frz od u) hG x hu.nt hu.nc
  refine W te F _ _ σ ρ a od R1 (ht _ _ x R1) (fz od _ upd_same x) _ fun J Y=>dcT_core R1 Y hv0 hlen P p0 turn fin (fun v H'=>H' a = some (.frz od u) /\ Q' v (upd H' a u)) fun p d ρ' G' H' e R' hp hF hO o q=>?_
  have hG' := e _ _ (upd_same (H := G) (a := a) (o := .frz od u))
  have x2 := rdx_unlockU hu hG'
  have ne : p ≠ a := fun z=>by rw [z,hG'] at hp; cases hp
  exact ⟨R'.wd.g _ _ hG',k p d ρ' (upd G' a u) _ (ex_unlock hG e) (R'.relock hG' x2 (fun xs z=>nomatch z) (fun c q z=>by unfold LamX.CodeO at z; cases z)) (by rw [upd_ne ne]; exact hp) hF hO (by rw [upd_ne ne]; exact o.rdx x2) q⟩
 ·exact .inr (W te F G H σ ρ a od R (ht G H ⟨fun _ _ _ z=>z,fun _ _ _ _ z=>z,fun _ _ z=>z,fun _ _ z=>z,fun _ _ z=>z,fun _ _ z=>z⟩ R) fz _ fun J Y=>dcT_core R Y hv0 hlen P p0 turn fin Q' k)
def insTφ (K : PySem.W.Frag) (a p : Addr) (C : Str) (fs : List (Str × D)) (f : Str) (ps : List (List Key × D)) : Option V -> Hp -> Hp -> Prop := fun s G H =>
 s = some (.ref a) /\ (∃ dx vs,H a = some (.ins (He.ga K C) dx (vs ++ [(f,V.ref p)])) /\ vs.map (·.1) = fs.map (·.1) /\ Reps K G (vs.map (·.2)) (fs.map (·.2))) /\ OwnR K G (H p) (.dt ps)
def insT (K : PySem.W.Frag) (a p : Addr) (C : Str) (fs : List (Str × D)) (f : Str) (ps : List (List Key × D)) : Sl := .any [a,p] (insTφ K a p C fs f ps)
theorem insT_slot {F G H : Hp} {s : Option V} {a p : Addr} {C f : Str} {fs : List (Str × D)} {ps : List (List Key × D)} (h : insTφ K a p C fs f ps s G H) (ha : G a = none /\ F a = none) (hp : G p = none /\ F p = none) : SlotOk K F G H s (insT K a p C fs f ps) := by
 refine ⟨h,fun s G G' H H' e k h=>?_,fun b m=>?_⟩
 ·obtain ⟨h1,⟨dx,vs,h2,h3,h4⟩,h5⟩ := h
  exact ⟨h1,⟨dx,vs,by rw [k a List.mem_cons_self]; exact h2,h3,reps_rdx e h4⟩,by rw [k p (List.mem_cons_of_mem _ List.mem_cons_self)]; exact h5.rdx e⟩
 ·obtain ⟨_,⟨dx,vs,h2,_,_⟩,h5⟩ := h
  rcases List.mem_cons.mp m with rfl | m
  ·exact ⟨ha.1,ha.2,_,h2,nt_mut (u := .ins _ _ _) trivial⟩
  ·rw [List.mem_singleton.mp m]
   obtain ⟨u,hu,hm⟩ := h5.some
   exact ⟨hp.1,hp.2,u,hu,nt_mut hm⟩
theorem putF_app {f : Str} {v : V} : ∀ {fs : List (Str × V)},f ∉ fs.map (·.1) -> putF f v fs = fs ++ [(f,v)]
 | [],_=>rfl
 | (g,x) :: fs,h=>by
  have h1 : g ≠ f := fun z=>h (by rw [List.map_cons]; exact z ▸ List.mem_cons_self)
  unfold putF
  rw [if_neg h1,putF_app fun z=>h (List.mem_cons_of_mem _ z)]; rfl
theorem look_app {f : Str} {v : V} : ∀ {fs : List (Str × V)},f ∉ fs.map (·.1) -> (fs ++ [(f,v)]).lookup f = some v
 | [],_=>by simp
 | (g,x) :: fs,h=>by
  have h1 : (f == g) = false := beq_eq_false_iff_ne.mpr fun z=>h (by rw [List.map_cons]; exact z ▸ List.mem_cons_self)
  rw [List.cons_append,List.lookup_cons,h1]
  exact look_app fun z=>h (List.mem_cons_of_mem _ z)
theorem ws_fldT {i : Nat} {a : Addr} {C f : Str} (hc : Cls K (He.ga K C)) (hn : NoAttr K (He.ga K C) f) (h : EvN K tv ρ fun d ρ1=>∃ fs ps,d = .dt ps /\ ρ1[i]? = some (.own a (.ins C fs)) /\ fs.length < 1000 /\ f ∉ fs.map (·.1) /\ ∀ p,E.nx (ρ1.set i (insT K a p C fs f ps))) : WS K (sFld K (tVar i) tv f) ρ E := fun F G H σ Dn R L =>
 h F G H σ R _ fun p d ρ1 G1 H1 e1 R1 gp fp op o q=>by
  obtain ⟨fs,ps,rfl,hi,hl,hf,q⟩ := q
  obtain ⟨s,hs,rfl,hG,hF,dx,vs,hd,hk,hr⟩ := R1.sl.get hi
  have hf2 : f ∉ vs.map (·.1) := by rw [hk]; exact hf
  have hll : vs.length = fs.length := by have := congrArg List.length hk; simpa using this
  have ma : a ∈ ownA ρ1 := adr_mem hi List.mem_cons_self
  have ap : a ≠ p := fun z=>op (z ▸ ma)
  have na : a ∉ ownA (ρ1.set i .un) := ownA_out R1.nd hi List.mem_cons_self
  have sz : i < ρ1.length := (List.getElem?_eq_some_iff.mp hi).1
  have np : p ∉ ownA (ρ1.set i .un) := fun m=>op ((ownA_set0 (r := .un) rfl i).subset m)
  have R2 : RE K F G1 (upd H1 a (.ins (He.ga K C) dx (putF f (.ref p) vs))) σ (ρ1.set i .un) := R1.mut (r' := .un) hi List.mem_cons_self (List.nil_sublist _) hs trivial
  refine ⟨.ref a,hs,a,_,dx,vs,rfl,hd,hc,hn,by omega,?_⟩
  have R3 := R2.setAny (s := some (.ref a)) (r := insT K a p C fs f ps) (insT_slot ⟨rfl,⟨dx,vs,by rw [upd_same,putF_app hf2],hk,hr⟩,by rw [upd_ne (Ne.symm ap)]; exact o⟩ ⟨hG,hF⟩ ⟨gp,fp⟩) (by show [a,p].Nodup; simp [ap]) (fun b m=>by
   rcases List.mem_cons.mp m with rfl | m
   ·exact na
   ·rw [List.mem_singleton.mp m]; exact np) i
  rw [List.set_set] at R3
  have eσ : σ.set i (some (.ref a)) = σ := by
   obtain ⟨hl,hx⟩ := List.getElem?_eq_some_iff.mp hs
   rw [<- hx,List.set_getElem_self]
  rw [eσ] at R3
  exact L.nx _ _ G1 _ e1 R3 (q p)
theorem ws_dputI {i : Nat} {a p : Addr} {C f : Str} {fs : List (Str × D)} {p0 : List (List Key × D)} (hc : Cls K (He.ga K C)) (hn : NoAttr K (He.ga K C) f) (hf : f ∉ fs.map (·.1)) (h : EvW K tv ρ fun d ρ1=>ρ1[i]? = some (insT K a p C fs f p0) /\ EvW K ty ρ1 fun y ρ2=>∃ k ps,y = .tup (k.map kD) /\ ρ2[i]? = some (insT K a p C fs f ps) /\ ps.length < 90000 /\ E.nx (ρ2.set i (insT K a p C fs f (dput ps k d)))) :
  WS K (sDPut (tFld K (tVar i) f) ty tv) ρ E := fun F G H σ Dn R L =>
 h F G H σ R _ fun v d ρ1 G1 H1 e1 R1 hv q=>by
  obtain ⟨hi1,q⟩ := q
  obtain ⟨s1,hs1,⟨rfl,⟨dx,vs,g1,g2,g3⟩,_⟩,_,_⟩ := R1.sl.get hi1
  have hf2 : f ∉ vs.map (·.1) := by rw [g2]; exact hf
  refine ⟨.ref a,hs1,a,He.ga K C,dx,_,.ref p,rfl,g1,hc,hn,look_app hf2,q F G1 H1 σ R1 _ fun w y ρ2 G2 H2 e2 R2 hw q2=>?_⟩
  obtain ⟨kk,ps,rfl,hi2,hl,q2⟩ := q2
  obtain ⟨s2,hs2,⟨rfl,⟨dx2,vs2,k1,k2,k3⟩,kvs,hd,hk,hr⟩,_,h5⟩ := R2.sl.get hi2
  obtain ⟨z1,z2⟩ := put_rel (k := kk) hk hr (hv.mono e2)
  have hlen : kvs.length = ps.length := by have := congrArg List.length hk; simpa using this
  obtain ⟨b,rfl,hb⟩ := rep_kT hw
  have nd : [a,p].Nodup := List.Nodup.sublist (adr_sub hi2) R2.nd
  have ap : a ≠ p := fun z=>(List.nodup_cons.mp nd).1 (z ▸ List.mem_cons_self)
  have a5 := h5 a List.mem_cons_self
  have p5 := h5 p (List.mem_cons_of_mem _ List.mem_cons_self)
  refine ⟨p,upd H2 p (.dT (putK kvs kk v)),rfl,.inr ⟨kvs,kk,b,hd,rfl,R2.wd.g _ _ hb,by rw [hlen]; exact bigl (by omega),rfl⟩,?_⟩
  exact L.nx _ _ G2 _ (e1.trans e2) (R2.mut (r' := insT K a p C fs f (dput ps kk d)) hi2 (List.mem_cons_of_mem _ List.mem_cons_self) (List.Sublist.refl _) hs2 (insT_slot ⟨rfl,⟨dx2,vs2,by rw [upd_ne ap]; exact k1,k2,k3⟩,_,upd_same,z1,z2⟩ ⟨a5.1,a5.2.1⟩ ⟨p5.1,p5.2.1⟩)) q2
theorem RE.madeT {F G H : Hp} {σ : L2.St} {i : Nat} {a p : Addr} {C f : Str} {fs : List (Str × D)} {ps : List (List Key × D)} (R : RE K F G H σ ρ) (hi : ρ[i]? = some (insT K a p C fs f ps)) :
  ∃ G',Ex G G' /\ RE K F G' H σ (ρ.set i (.own a (.ins C (fs ++ [(f,.dt ps)])))) := by
 obtain ⟨s,hs,⟨rfl,⟨dx,vs,g1,g2,g3⟩,kvs,hd,hk,hr⟩,_,h5⟩ := R.sl.get hi
 have nd : [a,p].Nodup := List.Nodup.sublist (adr_sub hi) R.nd
 have ap : a ≠ p := fun z=>(List.nodup_cons.mp nd).1 (z ▸ List.mem_cons_self)
 have a5 := h5 a List.mem_cons_self
 have p5 := h5 p (List.mem_cons_of_mem _ List.mem_cons_self)
 have na := ownA_out R.nd hi List.mem_cons_self
 have np := ownA_out R.nd hi (List.mem_cons_of_mem _ List.mem_cons_self)
 have R2 := (R.forget hi hs).share hd p5.1 p5.2.1 np (fun _ z=>by cases z)
 have x1 : Ex G (upd G p (.dT kvs)) := Ex.new p5.1
 have R3 := R2.setOwn (p := a) (d := .ins C (fs ++ [(f,.dt ps)])) (by rw [upd_ne ap]; exact a5.1) a5.2.1 na ⟨dx,_,g1,by rw [List.map_append,List.map_append,g2]; rfl,by rw [List.map_append,List.map_append]; exact (g3.mono x1).append (.cons (.dt (.inl upd_same) hk (hr.mono x1)) .nil)⟩ i
 rw [List.set_set] at R3
 have eσ : σ.set i (some (.ref a)) = σ := by
  obtain ⟨hl,hx⟩ := List.getElem?_eq_some_iff.mp hs
  rw [<- hx,List.set_getElem_self]
 rw [eσ] at R3
 exact ⟨_,x1,R3⟩
theorem ws_endI (i : Nat) (h : WS K t ρ { E with nx := fun ρ'=>∃ a p C f fs ps,ρ'[i]? = some (insT K a p C fs f ps) /\ E.nx (ρ'.set i (.own a (.ins C (fs ++ [(f,.dt ps)])))) }) : WS K t ρ E := fun F G H σ Dn R L =>
 h F G H σ Dn R ⟨fun σ' ρ' G' H' e R' q=>by
  obtain ⟨a,p,C,f,fs,ps,hi,q⟩ := q
  obtain ⟨G2,e2,R2⟩ := R'.madeT hi
  exact L.nx σ' _ G2 H' (e.trans e2) R2 q,L.rt,L.bk,L.ct,L.ro,L.xx⟩
end
end DL
namespace DL
open PySem PySem.Spec PyProof.Rows L2 SrtK LowX SG
variable [TabL]
section
variable {K : PySem.W.Frag} {te ta tb to : TE} {ρ : Env} {E : EndD} {W : XK} {Q : D -> Env -> Prop}
theorem kminL {X : Cx} (hc : X.calm = true) (h : X.K = K) : CallR X (.builtin "min") (rMin K) := h ▸ cr_min hc
theorem opa_minL {ns : List Int} (h0 : 0 < ns.length) (q : ∀ m,m ∈ ns -> (∀ y,y ∈ ns -> m <= y) -> Q (.int m) ρ) : OpA K (rMin K) [.lst (ns.map D.int)] ρ Q := fun F G H σ R vs hv Q' k=>by
 obtain ⟨v,rfl,hv1⟩ := hv.one
 obtain ⟨a,ws,rfl,h1,h2⟩ := rep_lst hv1
 rw [reps_ints h2] at h1
 exact ⟨a,ns,rfl,.inl (.inl (R.wd.g _ _ h1)),h0,fun m m1 m2=>k _ _ ρ G H (Ex.refl G) R (.int _) (q m m1 m2)⟩
theorem opa_minL2 {i j : Int} (q : Q (.int (if j < i then j else i)) ρ) : OpA K (rMin K) [.lst [.int i,.int j]] ρ Q :=
 opa_minL (ns := [i,j]) (by show 0 < 2; decide) fun m h1 h2=>by
  have e : m = if j < i then j else i := by
   have a1 := h2 i List.mem_cons_self
   have a2 := h2 j (List.mem_cons_of_mem _ List.mem_cons_self)
   simp only [List.mem_cons,List.not_mem_nil,or_false] at h1
   split <;> omega
  rw [e]; exact q
theorem kindex {X : Cx} (h : X.K = K) : MtR X "list.index" (rIndex K) := h ▸ mt_index
theorem ew_index (h : EvW K to ρ fun d ρ1=>∃ ns,d = .lst (strsD ns) /\ EvW K te ρ1 fun y ρ2=>∃ x,y = .str x /\ x ∈ ns /\ Q (.int (ns.idxOf x : Nat)) ρ2) : EvW K (tBM K "list" (rIndex K) to (tCons te tNil)) ρ Q := fun F G H σ R Q' k =>
 h F G H σ R _ fun v d ρ1 G1 H1 e1 R1 hv q=>by
  obtain ⟨ns,rfl,q⟩ := q
  obtain ⟨a,vs,rfl,hd,hr⟩ := rep_lst hv
  have e : vs = ns.map V.str := reps_strs hr
  subst e
  refine ⟨.inl ⟨rfl,_,.inl (.inl (R1.wd.g _ _ hd))⟩,q F G1 H1 σ R1 _ fun w y ρ2 G2 H2 e2 R2 hw q2=>?_⟩
  obtain ⟨x,rfl,hx,q2⟩ := q2
  rw [rep_str hw]
  have hlt : ns.idxOf x < ns.length := List.idxOf_lt_length_of_mem hx
  have eqs : ∀ a b : Str,eqV (.str a) (.str b) = decide (a = b) := fun a b=>by
   unfold eqV
   by_cases z : a = b
   ·subst z; simp
   ·simp [z]
  refine ⟨a,ns.map V.str,.str x,ns.idxOf x,.str x,rfl,rfl,.inl (.inl (R2.wd.g _ _ (e2 _ _ hd))),rfl,?_,?_,?_,?_,k _ _ ρ2 G2 H2 (e1.trans e2) R2 (.int _) q2⟩
  ·rw [List.all_map]; exact List.all_eq_true.mpr fun _ _=>rfl
  ·rw [List.getElem?_map,List.getElem?_eq_getElem hlt,List.getElem_idxOf]; rfl
  ·rw [eqs,decide_eq_true rfl]
  ·intro m z' hm hz
   rw [List.getElem?_map] at hz
   obtain ⟨y,hy,rfl⟩ := Option.map_eq_some_iff.mp hz
   rw [eqs]
   refine decide_eq_false fun z=>?_
   subst z
   have hml := (List.getElem?_eq_some_iff.mp hy)
   obtain ⟨hml,hmy⟩ := hml
   have := List.not_of_lt_findIdx (xs := ns) (p := (· == y)) hm
   simp [hmy] at this
theorem op2_eqDT0 {ps : List (List Key × D)} {neg : Bool} (q : Q (.bl (if neg then !ps.isEmpty else ps.isEmpty)) ρ) : Op2 K (rEqDT K neg) (.dt ps) (.dt []) ρ Q := fun F G H σ R v w hv hw Q' k=>by
 obtain ⟨a,ks,rfl,h1,h2,h3⟩ := rep_dt hv
 obtain ⟨c,ls,rfl,g1,g2,g3⟩ := rep_dt hw
 have up : ∀ {a ks},Rd G a (.dT ks) -> Rd H a (.dT ks) := fun h=>(R.wd.g.rdx).1 _ _ trivial h
 have e2 : ls = [] := by cases ls with | nil=>rfl | cons _ _=>simp at g2
 subst e2
 have l1 : ks.length = ps.length := by have := congrArg List.length h2; simpa using this
 have z : ks.length = ([] : List (KK × V)).length -> HitsT K H [] ks true := fun z=>by
  have : ks = [] := List.length_eq_zero_iff.mp z
  subst this
  exact .nil
 refine ⟨a,c,ks,[],true,rfl,rfl,up h1,up g1,z,?_⟩
 have e : (ks.length == ([] : List (KK × V)).length && true) = ps.isEmpty := by
  rw [l1]
  cases ps <;> rfl
 rw [e]
 exact k _ _ ρ G H (Ex.refl G) R (.bl _) q
end
end DL
namespace L2
open PySem PySem.Spec PyProof.Rows
theorem units65 {k : Nat} {A : Around} (r : Room k A) : A.units + 65 < cLine := by have := r.un; omega
theorem kinD {X : Cx} {K : PySem.W.Frag} (h : X.K = K) (hu : X.A.units + 65 < cLine) : OpR X (compareOp .In) (rInD K) := h ▸ op_inD hu
theorem knotinD {X : Cx} {K : PySem.W.Frag} (h : X.K = K) (hu : X.A.units + 65 < cLine) : OpR X (compareOp .NotIn) (rNotInD K) := h ▸ op_notInD hu
end L2
namespace DL
open PySem PySem.Spec PyProof.Rows L2
variable [TabL]
section
variable {K : PySem.W.Frag} {ρ : Env} {Q : D -> Env -> Prop}
theorem any_eqv {n : Nat} {x : D} {p : PyData} (hx : PyI n x) (h1 : toPy x = some p) : ∀ (ys : List D) (qs : List PyData),(∀ y ∈ ys,PyI n y) -> toPys ys = some qs -> ((qs.any fun z=>PyData.eqv z p) = true ↔ x ∈ ys)
 | [],qs,_,h=>by
  unfold toPys at h
  cases h; simp
 | y :: ys,qs,hy,h=>by
  unfold toPys at h
  cases e1 : toPy y with
  | none=>rw [e1] at h; cases h
  | some q =>
   cases e2 : toPys ys with
   | none=>rw [e1,e2] at h; cases h
   | some t =>
    rw [e1,e2] at h
    cases h
    rw [List.any_cons,Bool.or_eq_true,any_eqv hx h1 ys t (fun z hz=>hy z (List.mem_cons_of_mem _ hz)) e2,eqv_iff n n y x q p (hy y List.mem_cons_self) hx e1 h1,List.mem_cons]
    exact ⟨fun z=>z.elim (fun e=>.inl e.symm) .inr,fun z=>z.elim (fun e=>.inl e.symm) .inr⟩
theorem in_parts {n : Nat} {x : D} {ys : List D} (hx : PyI n x) (hy : ∀ y ∈ ys,PyI n y) (hn : n + 1 <= 64) : ∃ p qs,toPy x = some p /\ toPy (.lst ys) = some (.list qs) /\ SeqAt.shaped p = true /\ SeqAt.shaped (.list qs) = true /\ ((qs.any fun z=>PyData.eqv z p) = true ↔ x ∈ ys) := by
 obtain ⟨p,h1,h2⟩ := py_parts hx (by omega)
 obtain ⟨r,g1,g2⟩ := py_parts (PyI.lst hy) hn
 rw [toPy] at g1
 obtain ⟨qs,e2,rfl⟩ := Option.map_eq_some_iff.mp g1
 exact ⟨p,qs,h1,by rw [toPy,e2]; rfl,h2,g2,any_eqv hx h1 ys qs hy e2⟩
theorem op2_inD {n : Nat} {x : D} {ys : List D} {b : Bool} (hx : PyI n x) (hy : ∀ y ∈ ys,PyI n y) (hn : n + 1 <= 64) (hb : b = true ↔ x ∈ ys) (q : Q (.bl b) ρ) : Op2 K (rInD K) x (.lst ys) ρ Q := fun F G H σ R v w hv hw Q' k=>by
 obtain ⟨p,qs,h1,h2,h3,h4,h5⟩ := in_parts hx hy hn
 refine ⟨p,qs,rep_dp (hv.mono R.wd.g) h1,rep_dp (hw.mono R.wd.g) h2,h3,h4,?_⟩
 rw [bool_eq h5 hb]
 exact k _ _ ρ G H (Ex.refl G) R (.bl _) q
theorem op2_notInD {n : Nat} {x : D} {ys : List D} {b : Bool} (hx : PyI n x) (hy : ∀ y ∈ ys,PyI n y) (hn : n + 1 <= 64) (hb : b = true ↔ x ∈ ys) (q : Q (.bl (!b)) ρ) : Op2 K (rNotInD K) x (.lst ys) ρ Q := fun F G H σ R v w hv hw Q' k=>by
 obtain ⟨p,qs,h1,h2,h3,h4,h5⟩ := in_parts hx hy hn
 refine ⟨p,qs,rep_dp (hv.mono R.wd.g) h1,rep_dp (hw.mono R.wd.g) h2,h3,h4,?_⟩
 rw [bool_eq h5 hb]
 exact k _ _ ρ G H (Ex.refl G) R (.bl _) q
end
end DL
namespace L2
open PySem PySem.Spec PyProof.Rows
def rInDT (K : PySem.W.Frag) : R2 := fun x y H Q=>∃ d ds,Dp K H x d /\ Dp K H y (.tuple ds) /\ SeqAt.shaped d = true /\ SeqAt.shaped (.tuple ds) = true /\ Q (.bl (ds.any fun z=>PyData.eqv z d)) H
theorem op_inDT {X : Cx} (hu : X.A.units + 65 < cLine) : OpR X (compareOp .In) (rInDT X.K) := by
 intro pins s σ H x y v u Q I rx ry h
 obtain ⟨d,ds,hd,he,sd,se,q⟩ := h
 obtain ⟨as,r1⟩ := Dp.reads I d x v hd rx
 obtain ⟨bs,r2⟩ := Dp.reads I (.tuple ds) y u he ry
 exact SeqAt.in_tuple_reads r2 r1 (SeqAt.canLay_of_shaped se) (SeqAt.canLay_of_shaped sd) (room_in_shaped sd hu) ⟨.bl _,H,I,rfl,q⟩
theorem kinDT {X : Cx} {K : PySem.W.Frag} (h : X.K = K) (hu : X.A.units + 65 < cLine) : OpR X (compareOp .In) (rInDT K) := h ▸ op_inDT hu
end L2
namespace DL
open PySem PySem.Spec PyProof.Rows L2
variable [TabL]
section
variable {K : PySem.W.Frag} {ρ : Env} {Q : D -> Env -> Prop}
theorem in_partsT {n : Nat} {x : D} {ys : List D} (hx : PyI n x) (hy : ∀ y ∈ ys,PyI n y) (hn : n + 1 <= 64) : ∃ p qs,toPy x = some p /\ toPy (.tup ys) = some (.tuple qs) /\ SeqAt.shaped p = true /\ SeqAt.shaped (.tuple qs) = true /\ ((qs.any fun z=>PyData.eqv z p) = true ↔ x ∈ ys) := by
 obtain ⟨p,h1,h2⟩ := py_parts hx (by omega)
 obtain ⟨r,g1,g2⟩ := py_parts (PyI.tup hy) hn
 rw [toPy] at g1
 obtain ⟨qs,e2,rfl⟩ := Option.map_eq_some_iff.mp g1
 exact ⟨p,qs,h1,by rw [toPy,e2]; rfl,h2,g2,any_eqv hx h1 ys qs hy e2⟩
theorem op2_inDT {n : Nat} {x : D} {ys : List D} {b : Bool} (hx : PyI n x) (hy : ∀ y ∈ ys,PyI n y) (hn : n + 1 <= 64) (hb : b = true ↔ x ∈ ys) (q : Q (.bl b) ρ) : Op2 K (rInDT K) x (.tup ys) ρ Q := fun F G H σ R v w hv hw Q' k=>by
 obtain ⟨p,qs,h1,h2,h3,h4,h5⟩ := in_partsT hx hy hn
 refine ⟨p,qs,rep_dp (hv.mono R.wd.g) h1,rep_dp (hw.mono R.wd.g) h2,h3,h4,?_⟩
 rw [bool_eq h5 hb]
 exact k _ _ ρ G H (Ex.refl G) R (.bl _) q
end
end DL
namespace SumT
open PySem PySem.Spec PyProof.Rows L2
section
variable {prog : Program} {w : World} {A : Around} {E : Value -> Shared -> Prop} {s : Shared} {l : Addr} {xs : Array (Int × Tok)}
theorem sum_intTupG {Q : Value -> Shared -> Prop} (hh : A.handled = none) (hl : s.heap.IsTuple l (intItems xs))
  (h : ∀ h' tk t',(∀ b o,s.heap.get? b = some o -> h'.get? b = some o) -> Q (.int (preSum (numAt xs) xs.size) t') { s with heap := h',toks := tk }) :
  wpAny (model prog w) A (call (.builtin "sum") [.ref l]) Q E s := by
 have hlt : l < s.heap.objs.size := by obtain ⟨_,e,_⟩ := hl; exact Heap.lt_size e
 refine call_sum_walkG (wpAny_pyIter_tuple hl ?_)
 refine ⟨_,_,_,_,_,_,numAt xs,rfl,Walks.tuple (A := A.in1) hh _ l (Nat.ne_of_lt hlt) (intItems xs),⟨⟨_,Heap.get?_push_size _ rfl,rfl,rfl⟩,hl.push _⟩,fun b hb=>?_,fun _ _=>intItems_at,fun h' tk t' hk=>?_⟩
 ·show b < (s.heap.push _).objs.size
  rw [Heap.size_push]
  rcases List.mem_cons.mp hb with rfl | hb
  ·exact Nat.lt_succ_self _
  ·rw [List.mem_singleton.mp hb]; exact Nat.lt_succ_of_lt hlt
 ·have := h h' tk t' fun b o e=>by
   refine hk b o (fun hm=>?_) (Heap.get?_push_of_some _ e)
   exact absurd (List.mem_singleton.mp hm ▸ Heap.lt_size e) (Nat.lt_irrefl _)
  simpa [intItems] using this
theorem sum_rawT {its : List Value} {ns : List Int} {Q : Value -> Shared -> Prop} (hh : A.handled = none) (hl : s.heap.IsTuple l its.toArray) (hi : IntsAre its ns)
  (h : ∀ h' tk t',(∀ b o,s.heap.get? b = some o -> h'.get? b = some o) -> Q (.int ns.sum t') { s with heap := h',toks := tk }) : wpAny (model prog w) A (call (.builtin "sum") [.ref l]) Q E s := by
 obtain ⟨xs,e⟩ := hi.allInts.items
 have hn : numsOf (intItems xs).toList = ns := by rw [<- e]; exact hi.numsOf
 rw [nums_intItems] at hn
 rw [e] at hl
 refine sum_intTupG hh hl fun h' tk t' hk=>?_
 have := h h' tk t' hk
 rw [preSum_eq,List.take_of_length_le (by simp),hn]; exact this
end
section
variable {X : Cx}
def rSumT (K : PySem.W.Frag) : List V -> Hp -> VK -> Prop := fun vs H Q=>∃ (a : Addr) (ns : List Int),vs = [V.ref a] /\ SqT K H a (ns.map V.int) /\ Q (.int ns.sum) H
theorem cr_sumT (hc : X.calm = true) : CallR X (.builtin "sum") (rSumT X.K) := by
 intro pins s σ H vs us Q I r h
 obtain ⟨a,ns,rfl,hs,q⟩ := h
 obtain ⟨its,rv,hl,_⟩ := I.tuple hs
 rw [Vals.ref1 r]
 exact sum_rawT (I.ok.hd hc) hl rv.ints fun h' tk t' hk=>⟨.int _,H,I.kept hk,⟨_,rfl⟩,q⟩
theorem ksumT {X : Cx} {K : PySem.W.Frag} (hc : X.calm = true) (h : X.K = K) : CallR X (.builtin "sum") (rSumT K) := h ▸ cr_sumT hc
end
end SumT
namespace DL
open PySem PySem.Spec PyProof.Rows L2
variable [TabL]
section
variable {K : PySem.W.Frag} {ρ : Env} {Q : D -> Env -> Prop}
theorem opa_sumT {ns : List Int} (q : Q (.int ns.sum) ρ) : OpA K (SumT.rSumT K) [.tup (ns.map D.int)] ρ Q := fun F G H σ R vs hv Q' k=>by
 obtain ⟨v,rfl,hv1⟩ := hv.one
 obtain ⟨a,ws,rfl,h1,h2⟩ := rep_tup hv1
 rw [reps_ints h2] at h1
 exact ⟨a,ns,rfl,.inl (.inl (R.wd.g _ _ h1)),k _ _ ρ G H (Ex.refl G) R (.int _) q⟩
end
end DL
namespace SrtL
open PySem PySem.W PySem.Calls PyProof.Rows
section
variable {prog : Program} {w : World} {A : Around} {E : Value -> Shared -> Prop} {s : Shared} {a kS : Addr} {vs : List Value} {keys : Array Value} {e e1 : Nat} {P : PySem.Fin -> Shared -> Prop} {kz : List PyData}
def Keep2 (a c : Addr) (h h' : Heap) : Prop := ∀ b o,b ≠ a -> b ≠ c -> h.get? b = some o -> h'.get? b = some o
theorem tail2 {st : SortSt} {out : List Value} (nk : s.heap.get? kS = some (seqObj "list" keys e)) (na : s.heap.get? a = some (seqObj "list" #[] e1)) (hka : kS ≠ a) (hsz : keys.size <= sizeLine) (hz : out.length <= sizeLine)
  (hfl : failedOf st = none) (ho : (arrOf st).map (·.2) = out.toArray)
  (h : ∀ h' tk c,Keep2 a kS s.heap h' -> h'.get? a = some (seqObj "list" out.toArray c) -> P (.done (.ret .none)) { s with heap := h',toks := tk }) :
  wpAny (model prog w) A (ksk_tail a false e1 (.ref kS) st) P E s := by
 have u1 := Heap.SameBut.update s.heap kS (Obj.mapSeq fun _=>(#[] : Array Value))
 have n1 := (u1.2 a hka.symm).trans na
 have u2 := Heap.SameBut.update (s.heap.update kS (Obj.mapSeq fun _=>(#[] : Array Value))) a (Obj.mapSeq fun _=>out.toArray)
 have g2 := get?_update_seq n1 fun _=>out.toArray
 unfold ksk_tail
 try dsimp only
 rw [if_neg Bool.false_ne_true,ho]
 refine wpAny_bind (listUpdate_at nk rfl (wpAny_bind (wpAny_letGo (wpAny_bind (seqEpoch_at n1 rfl (wpAny_bind (listUpdate_at n1 rfl ?_ (Nat.zero_le _) (by rw [List.size_toArray]; exact Nat.le_succ_of_le hz))))))) hsz (Nat.zero_le _))
 rw [hfl]
 simp only [bne_self_eq_false,Bool.false_eq_true,if_false]
 exact wpAny_pure (h _ _ _ (fun b o ha hk q=>(u2.2 b ha).trans ((u1.2 b hk).trans q)) g2)
theorem end2 {κ : PyProof.Rows.KeyKind} (nk : s.heap.get? kS = some (seqObj "list" keys e)) (na : s.heap.get? a = some (seqObj "list" #[] e1)) (hka : kS ≠ a) (S : SortsAt prog w A s κ keys.toList) (hsz : keys.size = vs.length) (hZ : vs.length <= sizeLine)
  (h : ∀ h' tk c,Keep2 a kS s.heap h' -> h'.get? a = some (seqObj "list" (sortVals κ false keys.toList vs).toArray c) -> P (.done (.ret .none)) { s with heap := h',toks := tk }) :
  wpAny (model prog w) A (ksk_end a false vs.toArray e1 (.ref kS) keys) P E s := by
 obtain ⟨kd,h1,h2⟩ := S.kind
 have hol : (sortVals κ false keys.toList vs).length = vs.length := sortVals_length false (by rw [Array.length_toList]; exact hsz)
 have hK : PyProof.Rows.KeysOf κ (keys.zip vs.toArray) := keysOf_zip S.keys
 have hss : (keys.zip vs.toArray).size = vs.length := by rw [Array.size_zip,hsz,List.size_toArray,Nat.min_self]
 have fin : ∀ st' : SortSt,(arrOf st').Perm (keys.zip vs.toArray) -> SortedToK κ (arrOf st') (keys.zip vs.toArray).size -> Stable κ (arrOf st') (keys.zip vs.toArray) -> (arrOf st').map (·.2) = (sortVals κ false keys.toList vs).toArray := fun st' hp hs ht=>by
  have q := sort_out (rev := false) (keys := keys) (items := vs.toArray) (xs := arrOf st') (κ := κ) hK (by simpa using hp) (by simpa using hs) (by simpa using ht)
  simp only [Bool.false_eq_true,if_false,List.toList_toArray] at q
  have q2 := congrArg List.toArray q
  rwa [Array.toArray_toList] at q2
 unfold ksk_end
 try dsimp only
 rw [if_neg Bool.false_ne_true]
 by_cases hl2 : vs.toArray.size < 2
 ·rw [if_pos hl2,if_pos hl2]
  refine wpAny_bind (wpAny_pure ?_)
  rw [StateT.run_pure]
  refine wpAny_bind (wpAny_pure ?_)
  try dsimp only
  refine tail2 (st := SortSt.mk' general' (keys.zip vs.toArray) #[] 7 none) nk na hka (by rw [hsz]; exact hZ) (by rw [hol]; exact hZ) rfl (fin _ (Array.Perm.refl _) (fun i j hij hj=>?_) (Stable.refl _)) h
  rw [hss] at hj
  rw [List.size_toArray] at hl2
  have : i = j := by omega
  subst this
  exact KeyOrd.kle_refl _
 ·rw [if_neg hl2,if_neg hl2]
  rw [List.size_toArray] at hl2
  refine wpAny_bind (h2 (by rw [Array.length_toList,hsz]; omega) _ ?_)
  refine wpAny_bind (wpAny_mono (H.wpS_sortRunsSt (κ := κ) (kd := kd) (a₀ := keys.zip vs.toArray) (st := SortSt.mk' kd (keys.zip vs.toArray) #[] 7 none)
   (Q := fun _ st'=>failedOf st' = none /\ (arrOf st').map (·.2) = (sortVals κ false keys.toList vs).toArray)
   h1 hK ⟨Array.Perm.refl _,rfl,rfl⟩ rfl (Stable.refl _) (by rw [hss]; omega) fun st' a1 a2 a3 a4=>⟨a2,fin st' a1 a3 a4⟩) (fun x s' q=>?_) fun _ _ e=>e)
  obtain ⟨⟨⟩,st'⟩ := x
  obtain ⟨rfl,hf,ho⟩ := q
  try dsimp only at ho ⊢
  exact tail2 nk na hka (by rw [hsz]; exact hZ) (by rw [hol]; exact hZ) hf ho h
theorem rest2 {f : Value} (J : Nat -> List Value -> Shared -> Prop) (nk : s.heap.get? kS = some (seqObj "list" #[] 0)) (na : s.heap.get? a = some (seqObj "list" #[] e1)) (hka : kS ≠ a)
  (hlen : kz.length = vs.length) (hZ : vs.length <= sizeLine) (hal : AllAlike kz) (hsk : Sortable kz) (hu : ∀ d,d ∈ kz -> A.units + d.depth < cLine) (j0 : J 0 [] s)
  (turn : ∀ (i : Nat) (v : Value) (kA : Array Value) (e : Nat) (s' : Shared),vs[i]? = some v -> kA.size = i -> s'.heap.get? kS = some (seqObj "list" kA e) -> s'.heap.get? a = some (seqObj "list" #[] e1) -> J i kA.toList s' ->
   wpAny (model prog w) A (call f [v]) (fun u s2=>s2.heap.get? kS = some (seqObj "list" kA e) /\ s2.heap.get? a = some (seqObj "list" #[] e1) ∧
    ∀ h' tk,(∀ b o,b ≠ kS -> s2.heap.get? b = some o -> h'.get? b = some o) -> (∃ c,h'.get? kS = some (seqObj "list" (kA.push u) c)) -> J (i + 1) (kA.toList ++ [u]) { s2 with heap := h',toks := tk }) (fun _ _=>False) s')
  (done : ∀ (kA : Array Value) (e : Nat) (s' : Shared),s'.heap.get? kS = some (seqObj "list" kA e) -> s'.heap.get? a = some (seqObj "list" #[] e1) -> J vs.length kA.toList s' ->
   EachIs (fun v k=>∃ as,Reads s'.heap v k as) kA.toList kz ∧
   ∀ h' tk c out,Keep2 a kS s'.heap h' -> h'.get? a = some (seqObj "list" (List.toArray out) c) -> KeyedOut false kz vs out -> P (.done (.ret .none)) { s' with heap := h',toks := tk }) :
  wpAny (model prog w) A (ksk_rest a f false vs.toArray e1 (.ref kS)) P E s := by
 unfold ksk_rest
 refine wpAny_bind (wpAny_rule ?_)
 first
  | rw [List.forIn_toArray]
  | (rw [<- Array.forIn_toList]; simp only [List.toList_toArray])
  | rw [<- Array.forIn_toList]
 refine wpAny_bind (ksk_fold (fun i s'=>∃ (kA : Array Value) (e : Nat),kA.size = i /\ s'.heap.get? kS = some (seqObj "list" kA e) /\ s'.heap.get? a = some (seqObj "list" #[] e1) /\ J i kA.toList s') vs 0 s ⟨#[],0,rfl,nk,na,j0⟩ ?step ?fin)
 case step =>
  rintro j x s' hx ⟨kA,e,hs,nk',na',hJ⟩
  simp only [Nat.zero_add] at hs hJ ⊢
  have hj : j < vs.length := (List.getElem?_eq_some_iff.mp hx).1
  refine wpAny_bind (wpAny_attempt (wpAny_mono (turn j x kA e s' hx hs nk' na' hJ) (fun v s2 q=>?_) fun _ _ hF=>hF.elim))
  obtain ⟨n2,m2,q⟩ := q
  try dsimp only
  have u1 := Heap.SameBut.update s2.heap kS (Obj.mapSeq (·.push v))
  have g1 := get?_update_seq n2 (·.push v)
  refine wpAny_bind (listUpdate_at n2 rfl (wpAny_pure ⟨rfl,kA.push v,_,by rw [Array.size_push,hs],g1,(u1.2 a hka.symm).trans m2,?_⟩) (by omega) (Nat.le_trans (Nat.le_of_eq (Array.size_push ..)) (by omega)))
  have := q _ s2.toks (fun b o hb z=>(u1.2 b hb).trans z) ⟨_,g1⟩
  simpa using this
 case fin =>
  rintro s' ⟨kA,e,hs,nk',na',hJ⟩
  rw [Nat.zero_add] at hs hJ
  obtain ⟨hk,q⟩ := done kA e s' nk' na' hJ
  try dsimp only
  refine wpAny_bind (listItems_at nk' rfl ?_)
  exact end2 (κ := dataKind s'.heap kz) nk' na' hka (SortsAt.data hk hal hsk hu) hs hZ fun h3 tk3 c k3 n3=>q h3 tk3 c _ k3 n3 ⟨s'.heap,kA.toList,hal,rfl,hk⟩
end
end SrtL
namespace SrtM
open PySem PySem.Spec PyProof.Rows L2 LamX LamY
def Made4 (q : Str) (P : Addr) (ps : Array Value) (H H1 : Hp) (c : Addr) : Prop := (H1 = H /\ ∃ pos : Pos,codeAmong pos ps.toList = some (.ref c)) \/ ∃ ps' : Array Value,H c = none /\ c ≠ P /\ H1 = upd (upd H P (.tbl ps')) c (CodeO c q) /\ TriplesOk ps'.toList ∧
 ∀ (pos : Pos) (cv : Value),codeAmong pos ps'.toList = some cv -> codeAmong pos ps.toList = some cv \/ cv = .ref c
structure LamS1 (sc scope : Scope) (p : Str) : Prop where
 kind : scope.kind = .function
 co : scope.isCoroutine = false
 gen : scope.isGenerator = false
 par : scope.names.lookup p = some .local
 own : ∀ y ∈ scope.names,(y.2 = .local -> y.1 = p) /\ y.2 ≠ .cell
 free : ∀ y ∈ scope.names,y.2 = .free -> sc.names.lookup y.1 = some .cell \/ sc.names.lookup y.1 = some .free
def lamSB1 (sc scope : Scope) (p : Str) : Bool :=
 decide (scope.kind = .function) && !scope.isCoroutine && !scope.isGenerator && decide (scope.names.lookup p = some .local) && scope.names.all fun y=>(!decide (y.2 = .local) || decide (y.1 = p)) && !decide (y.2 = .cell) && (!decide (y.2 = .free) || decide (sc.names.lookup y.1 = some .cell) || decide (sc.names.lookup y.1 = some .free))
theorem lamS1_by {sc scope : Scope} {p : Str} (h : lamSB1 sc scope p = true) : LamS1 sc scope p := by
 unfold lamSB1 at h
 simp only [Bool.and_eq_true,Bool.or_eq_true,Bool.not_eq_true',decide_eq_true_eq,decide_eq_false_iff_not,List.all_eq_true] at h
 obtain ⟨⟨⟨⟨h1,h2⟩,h3⟩,h5⟩,h4⟩ := h
 refine ⟨h1,h2,h3,h5,fun y hy=>⟨fun e=>?_,(h4 y hy).1.2⟩,fun y hy e=>?_⟩
 ·rcases (h4 y hy).1.1 with z | z
  ·exact absurd e z
  ·exact z
 ·rcases (h4 y hy).2 with (z | z) | z
  ·exact absurd e z
  ·exact .inl z
  ·exact .inr z
theorem LamS1.has {X : Cx} {scope : Scope} {p : Str} (L : LamS1 X.env.scope scope p) (ok : X.Ok) : ∀ y ∈ scope.names,y.2 = .free -> ∃ c,X.env.cells.lookup y.1 = some c := fun y hy e=>by
 rcases L.free y hy e with k | k
 ·exact ok.has _ (.inl k)
 ·exact ok.has _ (.inr k)
section
variable {X : Cx} {pins : List (Addr × Obj)} {σ : L2.St} {H : Hp} {s : Shared}
theorem make4 {c P : Addr} {ps : Array Value} {params : Arguments} {body : Expr} {scope : Scope} {pos : Pos} {E : Value -> Shared -> Prop} {Q : Value -> Shared -> Prop} (I : Inv X pins σ H s) (TB : TabB X.base X.mg c P) (hcode : X.env.code = .ref c)
  (hT : TabOk H P (X.env.qual ++ "<lambda>") ps) (hdef : defaultsOf params X.env = ([],[])) (hfree : ∀ y ∈ scope.names,y.2 = .free -> ∃ c,X.env.cells.lookup y.1 = some c)
  (h : ∀ (f c' : Addr) (pm ctv : Value) (H1 : Hp) (s' : Shared),Inv X pins σ H1 s' -> Made4 (X.env.qual ++ "<lambda>") P ps H H1 c' ->
   s'.heap.get? f = some (PySem.W.kla_obj "<lambda>" (X.env.qual ++ "<lambda>") params body scope (cloFrom X.env.cells scope.names []) pm c' ctv) -> FpOk X pins H1 f -> H1 c' = some (CodeO c' (X.env.qual ++ "<lambda>")) -> Q (.ref f) s') :
  wpAny (model X.prog X.w) X.A (eval (.Lambda params body scope pos) X.env) Q E s := by
 obtain ⟨hP,ht,ha⟩ := hT
 have at_P : s.heap.get? P = some { cls := .none,data := .fields ps } := I.hok P _ hP
 refine PySem.W.kla_eval hdef ?_
 cases hc : codeAmong pos ps.toList with
 | some cv =>
  obtain ⟨c',rfl,hco⟩ := ha pos cv hc
  refine PySem.W.kla_makeFunctionHit (mg := X.mg) (c := c) (P := P) (ps := ps) (closure_ok hfree) I.ok.glob (I.mod.glob.keeps I.bk) hcode (TB.code.keeps I.bk) at_P ht hc (TB.bm.keeps I.bk) fun ctv h' tk hx hsz=>?_
  exact h h'.objs.size c' ((X.mg "__name__").getD .none) ctv H _ (I.kept fun b o e=>Heap.get?_push_of_some _ (hx b o e)) (.inl ⟨rfl,pos,hc⟩) (Heap.get?_push_size _ rfl) (I.fpOk hsz (I.hok.fresh hsz)) hco
 | none =>
  refine PySem.W.kla_makeFunction (mg := X.mg) (c := c) (P := P) (ps := ps) (closure_ok hfree) I.ok.glob (I.mod.glob.keeps I.bk) hcode (TB.code.keeps I.bk) at_P ht hc TB.gP (TB.bm.keeps I.bk) fun c' ctv h' tk hx hge hlt hrec htb=>?_
  obtain ⟨c2,oc,vs,t,e2,hoc,hd,hv⟩ := hrec
  cases e2
  have hsz : s.heap.objs.size <= h'.objs.size := Nat.le_trans hge (Nat.le_of_lt hlt)
  have nC : H c' = none := I.hok.fresh hge
  have nP : c' ≠ P := Ne.symm (ne_of_none hP nC)
  have J := inv_table (t' := tk) (more := #[rawInt pos.line,rawInt pos.col,.ref c']) (q := X.env.qual ++ "<lambda>") (h' := h'.push (PySem.W.kla_obj "<lambda>" (X.env.qual ++ "<lambda>") params body scope (cloFrom X.env.cells scope.names []) ((X.mg "__name__").getD .none) c' ctv)) I hP
   (fun b o hb e=>Heap.get?_push_of_some _ (hx b o hb e)) (Heap.get?_push_of_some _ htb) hge ⟨oc,vs,t,Heap.get?_push_of_some _ hoc,hd,hv⟩
  have eL : (ps ++ #[rawInt pos.line,rawInt pos.col,.ref c']).toList = ps.toList ++ [rawInt pos.line,rawInt pos.col,.ref c'] := by simp
  refine h h'.objs.size c' ((X.mg "__name__").getD .none) ctv _ _ J (.inr ⟨ps ++ #[rawInt pos.line,rawInt pos.col,.ref c'],nC,nP,rfl,by rw [eL]; exact PySem.TriplesOk_snoc _ _ _ _ ht,fun p' cv hcv=>?_⟩) (Heap.get?_push_size _ rfl) (I.fpOk hsz ?_) upd_same
  ·rw [eL] at hcv
   exact among_app _ ht hcv
  ·rw [upd_ne (Nat.ne_of_gt hlt),upd_ne (Nat.ne_of_gt (Nat.lt_of_lt_of_le (Heap.lt_size at_P) hsz))]
   exact I.hok.fresh hsz
variable {v : V} {u : Value} {p : Str} {j : Nat}
theorem lam_start1 {A : Around} {E : XK} {scope : Scope} {f c' : Addr} {h₁ : Heap} {tk : Nat} (I : Inv X pins σ H s) (L : LamS1 X.env.scope scope p) (e0 : Env0 X.prog X.w X.K X.mg X.base A X.stack s H) (hd : A.handled = none)
  (hns : h₁.Ns s.heap.objs.size fun y=>[(p,u)].reverse.lookup y) (kp : ∀ b o,s.heap.get? b = some o -> h₁.get? b = some o) (r : RelV v u) (hj : X.N[j]? = some p) (hu : ∀ i,X.N[i]? = some p -> i = j) :
  Inv (lamCx X A X.stack s H E scope f c') [] (σ.set j (some v)) H { s with heap := h₁,toks := tk } := by
 have hfree := L.has I.ok
 have cm : ∀ {y c},(cloFrom X.env.cells scope.names []).lookup y = some c -> X.env.cells.lookup y = some c := fun {y c} e=>by
  rcases cloFrom_mem (PySem.mem_of_lookup e) with hm | ⟨h1,h2⟩
  ·cases hm
  ·obtain ⟨c1,hc⟩ := hfree _ h1 rfl
   have hc : X.env.cells.lookup y = some c1 := hc
   have e2 : c = c1 := by
    rw [h2,hc] <;> rfl
   rw [e2]
   exact hc
 have look : ∀ {y},scope.names.lookup y = some .free -> ∃ c,(cloFrom X.env.cells scope.names []).lookup y = some c := fun {y} hl=>by
  have hy : (y,NameKind.free) ∈ scope.names := PySem.mem_of_lookup hl
  exact mem_lookup (cloFrom_has (cells := X.env.cells) (acc := []) hy)
 have cellK : ∀ {c : Addr} {v : Option Value},s.heap.IsCell c v -> h₁.IsCell c v := fun {c v} ⟨o,ho,hd⟩=>⟨_,kp _ _ ho,hd⟩
 have noA : ∀ b : Addr,b ∉ (lamCx X A X.stack s H E scope f c').ex := fun b z=>absurd (show b ∈ ([] : List Addr) from z) (by simp)
 refine ⟨⟨e0.mod,L.kind,rfl,rfl,Nat.le_refl _,fun y z c e1 e2=>I.ok.inj y z c (cm e1) (cm e2),fun y hy=>?_,fun y c z _=>?_,fun _=>hd,Around.frames_deeper e0.frames,.inr ⟨rfl,rfl⟩,fun b z=>absurd z (noA b),e0.bs,e0.bsz,fun b _ _=>noA b,
   fun b z=>absurd z (noA b),e0.funs,e0.frf⟩,
  rfl,e0.bare,Un.kept kp,⟨_,hns,fun i y w e1 e2 e3=>?_⟩,fun y c e=>?_,e0.hok.fresh (Nat.le_refl _),fun y c e=>?_,fun q hq=>absurd (show q ∈ ([] : List (Addr × Obj)) ++ [] from hq) (by simp),e0.hok.kept kp,by rw [List.length_set]; exact I.len⟩
 ·have hy : scope.names.lookup y = some .cell \/ scope.names.lookup y = some .free := hy
  rcases hy with hy | hy
  ·exact absurd rfl (L.own _ (PySem.mem_of_lookup hy)).2
  ·exact look hy
 ·have z : false = true := z
  cases z
 ·have e3 : Vis scope y := e3
  have e1 : X.N[i]? = some y := e1
  by_cases hi : i = j
  ·subst hi
   rw [hj] at e1
   cases e1
   have hlt : i < σ.length := by rw [I.len]; exact (List.getElem?_eq_some_iff.mp hj).1
   rw [List.getElem?_set_self hlt] at e2
   cases e2
   refine ⟨u,r,.inl ⟨L.par,?_⟩⟩
   show [(p,u)].reverse.lookup p = some u
   simp
  ·rw [List.getElem?_set_ne (Ne.symm hi)] at e2
   have hne : y ≠ p := fun z=>hi (hu i (z ▸ e1))
   rcases e3 with k | k | k
   ·exact absurd ((L.own _ (PySem.mem_of_lookup k)).1 rfl) hne
   ·exact absurd rfl (L.own _ (PySem.mem_of_lookup k)).2
   ·obtain ⟨m,hn,hl⟩ := I.loc
    have hvis : Vis X.env.scope y := (L.free _ (PySem.mem_of_lookup k) rfl).elim (fun k=>.inr (.inl k)) (fun k=>.inr (.inr k))
    obtain ⟨w',r,q⟩ := hl i y w e1 e2 hvis
    obtain ⟨c2,h2⟩ := look k
    refine ⟨w',r,.inr ⟨.inr k,c2,h2,?_⟩⟩
    have c1 := cm h2
    rcases q with ⟨k',_⟩ | ⟨_,c3,e',z⟩
    ·have k' : X.env.scope.names.lookup y = some .local := k'
     rcases L.free _ (PySem.mem_of_lookup k) rfl with k2 | k2 <;> rw [show X.env.scope.names.lookup y = _ from k2] at k' <;> cases k'
    ·rw [c1] at e'
     cases e'
     exact cellK z
 ·obtain ⟨w',z⟩ := I.cell y c (cm e)
  exact ⟨w',cellK z⟩
 ·exact I.freeC y c (cm e)
theorem act1 {A : Around} {k : Nat} {scope : Scope} {f c' : Addr} {pm ctv : Value} {params : Arguments} {body : Expr} {tb : TE} {Q : VK} (I : Inv X pins σ H s) (e0 : Env0 X.prog X.w X.K X.mg X.base A X.stack s H) (hr : Room (k + 1) A) (L : LamS1 X.env.scope scope p)
  (hf : s.heap.get? f = some (PySem.W.kla_obj "<lambda>" (X.env.qual ++ "<lambda>") params body scope (cloFrom X.env.cells scope.names []) pm c' ctv)) (hc : H c' = some (CodeO c' (X.env.qual ++ "<lambda>")))
  (hbind : ∀ u : Value,bindArgs (PySem.W.kla_fn "<lambda>" (X.env.qual ++ "<lambda>") params body scope (cloFrom X.env.cells scope.names []) pm (.ref c') ctv) ⟨[u],[]⟩ = pure [(p,u)])
  (hbody : ∀ (A : Around) (outer : List Env) (s : Shared) (H : Hp),Room k (A.deeper (lamEnv X scope s.heap.objs.size f c')) -> PE (lamCx X A outer s H C8.E0 scope f c') body tb)
  (hj : X.N[j]? = some p) (hu : ∀ i,X.N[i]? = some p -> i = j) (r : RelV v u) (h : tb (σ.set j (some v)) H Q) :
  wpAny (model X.prog X.w) A (call (.ref f) [u]) (EP X pins σ Q) (fun _ _=>False) s := by
 obtain ⟨⟨oc,vs,t,hoc,hdc,hvc⟩,_,_⟩ := I.hok c' _ hc
 have rc : codeAny (model X.prog X.w) A (.call (.ref f) ⟨[u],[]⟩) (CR (L2.CX X.prog X.w) X.stack X.prog X.w H s Q C8.E0) s := by
  refine PySem.W.kla_callFunE hr.depth hf rfl L.co L.gen rfl ⟨c',oc,vs,t,rfl,hoc,hdc,hvc⟩ ?_
  rw [hbind]
  refine wpAny_pure (wpAny_newFunctionEnv (fun y hy=>(L.own y hy).2) (fun y hy=>?_) (fun h₁ hns hsb=>⟨I.nolimit.fresh _ hsb,?_⟩) L.kind)
  ·rw [List.mem_singleton.mp hy]; exact L.par
  show codeAny _ _ (.expr body (lamEnv X scope s.heap.objs.size f c')) _ _
  have kp : ∀ b o,s.heap.get? b = some o -> h₁.get? b = some o := fun b o e=>hsb.extBut b o (Nat.ne_of_lt (Heap.lt_size e)) (Heap.get?_push_of_some _ e)
  have J : Inv (lamCx X A X.stack s H C8.E0 scope f c') [] (σ.set j (some v)) H { s with heap := h₁,toks := s.toks + ([(p,u)] : List (Str × Value)).length } :=
   lam_start1 I L e0 hr.hd hns kp r hj hu
  refine PySem.W.kla_codeExpr (wpAny_mono ((hbody _ _ s H (hr.deeper _)).run [] _ _ H Q J h) (fun v s' hq=>?_) fun e s' hq=>hq)
  obtain ⟨w',H',J',rv,q⟩ := hq
  exact ⟨w',H',J'.os,J'.bare,J'.base,J'.hok,rv,q⟩
 refine wpAny_call (codeAny_mono rc fun r s' hq=>?_)
 cases r with
 | error e =>
  obtain ⟨_,_,_,_,_,_,_,_,_,_,_,_,z⟩ := hq
  exact z
 | ok fl =>
  cases fl with
  | ret u=>exact I.after hq
  | next=>exact False.elim hq
  | brk=>exact False.elim hq
  | cont=>exact False.elim hq
end
end SrtM
namespace SrtN
open PySem PySem.Spec PySem.W PySem.Calls PyProof.Rows L2 LamX LamY SrtL SrtM
def KR (H : Hp) (v : V) (d : PyData) : Prop := (∃ i : Int,v = .int i /\ d = .int i) \/ ∃ (t : Addr) (is : List Int),v = .ref t /\ H t = some (.tup (is.map V.int)) /\ d = .tuple (is.map PyData.int)
theorem uix {N : List Str} {p : Str} {j : Nat} (h : ((List.range N.length).all fun i=>!decide (N[i]? = some p) || decide (i = j)) = true) : ∀ i,N[i]? = some p -> i = j := fun i hi=>by
 have hl : i < N.length := (List.getElem?_eq_some_iff.mp hi).1
 have := List.all_eq_true.mp h i (List.mem_range.mpr hl)
 rw [hi] at this
 simpa using this
noncomputable def outV (xs : List V) (kz : List PyData) : List V := ((xs.zip kz).mergeSort (dataLe false fun b=>b.2)).map (·.1)
theorem reads_ints {h : Heap} : ∀ {is : List Int} {us : List Value},Vals (is.map V.int) us -> ReadsAll h us (is.map PyData.int) []
 | [],_,r=>by cases r; exact .nil
 | i :: is,_,r=>by
  cases r with
  | cons r1 r2 =>
   obtain ⟨t,rfl⟩ := r1
   exact .cons (.int i t) (reads_ints r2)
section
variable {X : Cx} {pins : List (Addr × Obj)} {σ : L2.St} {H : Hp} {s : Shared}
theorem KR.reads {v : V} {d : PyData} {u : Value} (I : Inv X pins σ H s) (k : KR H v d) (r : RelV v u) : ∃ as,Reads s.heap u d as := by
 rcases k with ⟨i,rfl,rfl⟩ | ⟨t,is,rfl,ht,rfl⟩
 ·obtain ⟨t,rfl⟩ := r
  exact ⟨_,.int i t⟩
 ·have e : u = .ref t := r
  subst e
  obtain ⟨its,rv,⟨o,ho,hc,n,hd⟩,_⟩ := I.tuple (.inl (.inl ht))
  exact ⟨_,.tuple ho hc hd (by simpa using reads_ints rv)⟩
theorem krs_reads (I : Inv X pins σ H s) : ∀ {ks : List V} {kz : List PyData} {us : List Value},Paired (KR H) ks kz -> Vals ks us -> EachIs (fun v k=>∃ as,Reads s.heap v k as) us kz
 | [],_,_,p,r=>by cases p; cases r; exact .nil
 | _ :: _,_,_,p,r=>by
  cases p with
  | cons p1 p2 =>
   cases r with
   | cons r1 r2=>exact .cons (p1.reads I r1) (krs_reads I p2 r2)
theorem adoptL {h' : Heap} {t' : Nat} {ch : List Addr} {T : Addr} {ob : HO} (I : Inv X pins σ H s) (k : ∀ b o,b ∉ ch -> s.heap.get? b = some o -> h'.get? b = some o) (hf : ∀ b ∈ ch,FpOk X pins H b) (hT : T ∈ ch)
  (new : ObjOk X.prog X.w (upd H T ob) h' T ob) : Inv X pins σ (upd H T ob) { s with heap := h',toks := t' } := by
 have hn : H T = none := (hf T hT).1
 have nit : ∀ b u,H b = some u -> b ∉ ch := fun b u e z=>by
  have q := (hf b z).1
  rw [q] at e; cases e
 refine I.step (g' := s.gens) (d' := s.drawn) (ch := ch) (fun b hb=>⟨(hf b hb).2.2.2.1,(hf b hb).2.1,(hf b hb).2.2.2.2.1,(hf b hb).2.2.2.2.2⟩) (fun b o _ _ hc e _=>k b o hc e) (fun b o _ _ hc e _=>⟨o.slots,k b o hc e⟩)
  (fun b o hc e n=>?_) (fun b o hc e=>⟨o,k b o hc e⟩) (fun b xs e=>?_) (fun b o u e=>?_) (fun b ps e=>⟨#[],?_⟩) (fun m hm=>?_) (fun b u e=>?_) I.bare
 ·rw [upd_ne (fun z=>hc (by rw [z]; exact hT))]; exact n
 ·rw [upd_ne (ne_of_none e hn)]; exact e
 ·rw [upd_ne (ne_of_none e hn)]; exact e
 ·rw [upd_ne (ne_of_none e hn),e]; simp
 ·obtain ⟨o,es,ep,ho,r⟩ := hm
  exact ⟨o,es,ep,k _ o (fun z=>(hf _ z).2.1 rfl) ho,r⟩
 ·by_cases hb : b = T
  ·subst hb
   rw [upd_same] at e
   cases e
   exact new
  ·rw [upd_ne hb] at e
   refine (I.hok b u e).stay (fun c v hc q=>k c v ?_ q) (fun c q=>by rw [upd_ne (ne_of_none q hn)]; exact q) fun c xs q=>by rw [upd_ne (ne_of_none q hn)]; exact q
   rcases hc with z | z
   ·rw [z]; exact nit b u e
   ·exact nit c _ z
theorem out_vals : ∀ {out : List Value} {bs : List (V × PyData)},EachIs (fun u (b : V × PyData)=>RelV b.1 u) out bs -> Vals (bs.map (·.1)) out
 | _,[],h=>by cases h; exact .nil
 | _,b :: bs,h=>by
  cases h with
  | cons h1 h2=>exact .cons h1 (out_vals h2)
theorem each_zip : ∀ {xs : List V} {its : List Value} {kz : List PyData},Vals xs its -> kz.length = xs.length -> EachIs (fun u (b : V × PyData)=>RelV b.1 u) its (xs.zip kz)
 | [],_,_,r,_=>by cases r; exact .nil
 | x :: xs,_,k :: kz,r,e=>by
  cases r with
  | cons r1 r2=>exact .cons r1 (each_zip r2 (by simpa using e))
 | x :: xs,_,[],r,e=>by simp at e
theorem zip_snd {α β : Type} : ∀ {xs : List α} {ys : List β},ys.length = xs.length -> (xs.zip ys).map (·.2) = ys
 | [],[],_=>rfl
 | [],_ :: _,e=>by simp at e
 | _ :: _,[],_=>rfl
 | x :: xs,y :: ys,e=>by
  show y :: (xs.zip ys).map (·.2) = _
  rw [zip_snd (by simpa using e)]
variable {p : Str} {j k : Nat} {scope : Scope} {f c' a : Addr} {pm ctv : Value} {params : Arguments} {body : Expr} {tb : TE} {Q : VK} {xs : List V} {kz : List PyData}
def Col (X : Cx) (s : Shared) (u : Value) (its : List Value) : Prop := ∀ (E : Value -> Shared -> Prop) (R : List Value -> Shared -> Prop),(∀ h' tk,(∀ b o,s.heap.get? b = some o -> h'.get? b = some o) -> R its { s with heap := h',toks := tk }) -> wpAny (model X.prog X.w) X.A.in1 (collect u) R E s
theorem col_list {l : Addr} {its : List Value} (hl : s.heap.IsList l its.toArray) (hz : its.length <= sizeLine) : Col X s (.ref l) its := fun E R h=>by
 refine collect_list hl ?_ hz
 refine h _ s.toks fun b o q=>?_
 have hlt : b < s.heap.objs.size := Heap.lt_size q
 rw [Heap.get?_update_ne _ _ _ _ (Nat.ne_of_lt hlt)]
 exact Heap.get?_push_of_some _ q
theorem sortC_run {arg : Value} {its : List Value} (I : Inv X pins σ H s) (rv : Vals xs its) (hz : xs.length <= sizeLine) (hcol : Col X s arg its) (hr : Room (k + 3) X.A) (L : LamS1 X.env.scope scope p)
  (hf : s.heap.get? f = some (PySem.W.kla_obj "<lambda>" (X.env.qual ++ "<lambda>") params body scope (cloFrom X.env.cells scope.names []) pm c' ctv)) (hfp : FpOk X pins H f)
  (hbind : ∀ u : Value,bindArgs (PySem.W.kla_fn "<lambda>" (X.env.qual ++ "<lambda>") params body scope (cloFrom X.env.cells scope.names []) pm (.ref c') ctv) ⟨[u],[]⟩ = pure [(p,u)])
  (hbody : ∀ (A : Around) (outer : List Env) (s : Shared) (H : Hp),Room k (A.deeper (lamEnv X scope s.heap.objs.size f c')) -> PE (lamCx X A outer s H C8.E0 scope f c') body tb)
  (hj : X.N[j]? = some p) (hu : ∀ i,X.N[i]? = some p -> i = j) (hlen : kz.length = xs.length) (hal : AllAlike kz) (hsk : Sortable kz) (hdp : ∀ d ∈ kz,d.depth <= 2)
  (JV : Nat -> List V -> Hp -> Prop) (j0 : JV 0 [] H) (hcode : ∀ i ks Hi,JV i ks Hi -> Hi c' = some (CodeO c' (X.env.qual ++ "<lambda>")))
  (step : ∀ i x ks Hi,xs[i]? = some x -> JV i ks Hi -> tb (σ.set j (some x)) Hi fun y H'=>JV (i + 1) (ks ++ [y]) H')
  (fin : ∀ ks Hn,JV xs.length ks Hn -> Paired (KR Hn) ks kz /\ ∀ D,Hn D = none -> Q (.ref D) (upd Hn D (.lst (outV xs kz)))) :
  wpAny (model X.prog X.w) X.A (call (.builtin "sorted") [arg] [(Str.ofString "key",.ref f)]) (EP X pins σ Q) X.xe s := by
 have hil : its.length = xs.length := rv.length.symm
 have hzi : its.length <= sizeLine := by rw [hil]; exact hz
 refine call_function_entry_kw kind_sorted plain_sorted entry_sorted (ksk_s1 _ _) ?_
 unfold Builtin.«sorted»
 refine wpAny_bind (m := checkCount "sorted" 1 1 _) (wpAny_pure ?_)
 refine wpAny_bind (hcol _ _ fun h0 tk0 kp0=>?_)
 refine wpAny_bind (wpAny_newList ?_ hzi)
 obtain ⟨D,hD⟩ : ∃ D,D = h0.objs.size := ⟨_,rfl⟩
 obtain ⟨hB,hBe⟩ : ∃ hB,hB = h0.push (seqObj "list" its.toArray 0) := ⟨_,rfl⟩
 have hoD : hB.get? D = some (seqObj "list" its.toArray 0) := by rw [hD,hBe]; exact Heap.get?_push_size _ rfl
 have kpB : ∀ b o,s.heap.get? b = some o -> hB.get? b = some o := fun b o q=>by rw [hBe]; exact Heap.get?_push_of_some _ (kp0 b o q)
 have szl : h0.objs.size <= D := Nat.le_of_eq hD.symm
 have I0 : Inv X pins σ H { s with heap := h0,toks := tk0 } := I.kept kp0
 have core : ∀ E' : Value -> Shared -> Prop,wpAny (model X.prog X.w) X.A.in1.in1 (Builtin.«list.sort» ⟨[.ref D],[(Str.ofString "key",.ref f)]⟩) (fun fl s'=>fl = .done (.ret .none) /\ EP X pins σ Q (.ref D) s') E' { s with heap := hB,toks := tk0 } := ?core
 ·show wpAny _ _ _ _ _ { s with heap := h0.push (seqObj "list" its.toArray 0),toks := tk0 }
  rw [<- hBe]
  show wpAny _ _ (holding [.ref h0.objs.size] (call (.builtin "list.sort") [.ref h0.objs.size] [(Str.ofString "key",.ref f)]) >>= _) _ _ _
  rw [<- hD]
  refine wpAny_bind (wpAny_holding (wpAny_call_entry_kw slot_list_sort ⟨_,hoD,rfl⟩ entry_list_sort (wpAny_mono (core _) (fun fl s' hf=>?_) fun _ _ e=>e) (ksk_l1 _ _)))
  obtain ⟨rfl,hq⟩ := hf
  exact ⟨_,rfl,wpAny_pure ⟨_,rfl,hq⟩⟩
 intro E'
 rw [ksk_t1]
 have hDl : D < hB.objs.size := Heap.lt_size hoD
 obtain ⟨e1,ho1⟩ : ∃ e1,(hB.update D (Obj.mapSeq fun _=>(#[] : Array Value))).get? D = some (seqObj "list" #[] e1) := ⟨_,get?_update_seq hoD fun _=>#[]⟩
 obtain ⟨S,hS⟩ : ∃ S,S = ((hB.update D (Obj.mapSeq fun _=>(#[] : Array Value))).push (seqObj "tuple" its.toArray 0)).objs.size := ⟨_,rfl⟩
 have hSn : S = hB.objs.size + 1 := by rw [hS,size_push',Heap.size_update]
 have hDS : D ≠ S := by omega
 unfold ksk_tree
 refine wpAny_bind (listItems_at hoD rfl ?_)
 refine wpAny_bind (listUpdate_at hoD rfl ?_ (by rw [List.size_toArray]; exact hzi) (Nat.zero_le _))
 refine wpAny_bind (seqEpoch_at ho1 rfl ?_)
 refine wpAny_bind (wpAny_newTuple ?_ (by show its.length <= _; exact hzi))
 refine wpAny_bind (wpAny_newList ?_ (Nat.zero_le _))
 refine wpAny_holding ?_
 have old : ∀ b o,s.heap.get? b = some o -> (sortingHeap hB D its).get? b = some o := fun b o q=>sortingHeap_old (Nat.ne_of_lt (Nat.lt_of_lt_of_le (Heap.lt_size (kp0 b o q)) szl)) (kpB b o q)
 have I3 : Inv X pins σ H { s with heap := sortingHeap hB D its,toks := tk0 } := I.kept old
 have gS : (sortingHeap hB D its).get? S = some (seqObj "list" #[] 0) := by rw [hS]; exact Heap.get?_push_size _ rfl
 have gD : (sortingHeap hB D its).get? D = some (seqObj "list" #[] e1) := Heap.get?_push_of_some _ (Heap.get?_push_of_some _ ho1)
 have szc : h0.objs.size <= S := by omega
 have fD : FpOk X pins H D := I0.fpOk szl (I0.hok.fresh szl)
 have fS : FpOk X pins H S := I0.fpOk szc (I0.hok.fresh szc)
 have lf : f < h0.objs.size := Heap.lt_size (kp0 _ _ hf)
 have pinOk : ∀ {b : Addr} {o : Obj} {Hx : Hp},FpOk X pins H b -> Hx b = none -> (∀ v,o.data ≠ .cell v) -> ∀ {h : Heap},h.get? b = some o -> h.get? b = some o /\ Hx b = none /\ b ≠ X.env.locals /\ b ∉ X.fs /\ ∀ v,o.data ≠ .cell v := fun fp hn nc _ hg=>⟨hg,hn,fp.2.1,fp.2.2.1,nc⟩
 have ncl : ∀ (arr : Array Value) (n : Nat) (v : Option Value),(seqObj "list" arr n).data ≠ .cell v := fun arr n v z=>nomatch z
 have fp2 : ∀ {b : Addr} {Hx : Hp},FpOk X pins H b -> Hx b = none -> FpOk X pins Hx b := fun fp hn=>⟨hn,fp.2⟩
 show wpAny _ _ (ksk_rest D (.ref f) false its.toArray e1 (.ref ((hB.update D (Obj.mapSeq fun _=>(#[] : Array Value))).push (seqObj "tuple" its.toArray 0)).objs.size)) _ _ { s with heap := sortingHeap hB D its,toks := tk0 }
 rw [<- hS]
 refine rest2 (kz := kz) (s := { s with heap := sortingHeap hB D its,toks := tk0 }) (kS := S)
  (fun i ks s'=>∃ Hi kvs,Inv X ((D,seqObj "list" #[] e1) :: (f,PySem.W.kla_obj "<lambda>" (X.env.qual ++ "<lambda>") params body scope (cloFrom X.env.cells scope.names []) pm c' ctv) :: pins) σ Hi s' /\ Hi S = none /\ Vals kvs ks /\ JV i kvs Hi)
  gS gD (Ne.symm hDS) (by rw [hlen,hil]) hzi hal hsk (fun d hd=>?_) ⟨H,[],I3.pins_of fun q hq=>?_,fS.1,.nil,j0⟩ ?_ ?_
 ·have := hdp d hd
  have := hr.un
  show X.A.units + 1 + 1 + d.depth < cLine
  omega
 ·rcases List.mem_cons.mp hq with rfl | hq
  ·exact pinOk fD fD.1 (ncl _ _) gD
  ·rcases List.mem_cons.mp hq with rfl | hq
   ·exact pinOk hfp hfp.1 (fun v z=>by cases z) (old _ _ hf)
   ·exact I3.pin q (List.mem_append_right _ hq)
 ·intro i v kA e s' hv hsz nk na hJ
  obtain ⟨Hi,kvs,I1,hSi,rk,hJ⟩ := hJ
  obtain ⟨x,hx⟩ : ∃ x,xs[i]? = some x := ⟨_,List.getElem?_eq_getElem (by rw [<- hil]; exact (List.getElem?_eq_some_iff.mp hv).1)⟩
  obtain ⟨v',hv',rx⟩ := rv.get hx
  rw [hv] at hv'
  cases hv'
  have I2 : Inv X ((S,seqObj "list" kA e) :: (D,seqObj "list" #[] e1) :: (f,PySem.W.kla_obj "<lambda>" (X.env.qual ++ "<lambda>") params body scope (cloFrom X.env.cells scope.names []) pm c' ctv) :: pins) σ Hi s' := I1.pins_of fun q hq=>by
   rcases List.mem_cons.mp hq with rfl | hq
   ·exact pinOk fS hSi (ncl _ _) nk
   ·exact I1.pin q (List.mem_append_right _ hq)
  have gf := (I2.pin (f,_) (List.mem_append_right _ (.tail _ (.tail _ (.head _))))).1
  refine wpAny_mono (act1 I2 (I2.env0.in1.in1) (hr.mono (by omega : k + 1 + 1 + 1 <= k + 3)).in1.in1 L gf (hcode _ _ _ hJ) hbind hbody hj hu rx (step i x kvs Hi hx hJ)) (fun u s2 q=>?_) fun _ _ z=>z
  obtain ⟨y,H',I4,ry,hJ'⟩ := q
  have pS := I4.pin (S,_) (List.mem_append_right _ (.head _))
  have pD := I4.pin (D,_) (List.mem_append_right _ (.tail _ (.head _)))
  refine ⟨pS.1,pD.1,fun h' tk kk hc=>⟨H',kvs ++ [y],?_,pS.2.1,rk.append (.cons ry .nil),hJ'⟩⟩
  refine (I4.pins_of (pins' := (D,seqObj "list" #[] e1) :: (f,PySem.W.kla_obj "<lambda>" (X.env.qual ++ "<lambda>") params body scope (cloFrom X.env.cells scope.names []) pm c' ctv) :: pins) fun q hq=>I4.pin q (List.mem_append_right _ (.tail _ hq))).turned (it := S) kk pS.2.1 fS.2.1 fS.2.2.2.1 fS.2.2.2.2.1 fun q hq=>?_
  rcases List.mem_append.mp hq with hq | hq
  ·exact fS.2.2.2.2.2 q (List.mem_append_left _ hq)
  ·rcases List.mem_cons.mp hq with rfl | hq
   ·exact hDS
   ·rcases List.mem_cons.mp hq with rfl | hq
    ·exact Nat.ne_of_lt (Nat.lt_of_lt_of_le lf szc)
    ·exact fS.2.2.2.2.2 q (List.mem_append_right _ hq)
 ·intro kA e s' nk na hJ
  obtain ⟨Hn,kvs,I1,hSn',rk,hJ⟩ := hJ
  rw [hil] at hJ
  obtain ⟨kr,q⟩ := fin kvs Hn hJ
  refine ⟨krs_reads I1 kr rk,fun h' tk c out kp gD' ko=>⟨rfl,.ref D,upd Hn D (.lst (outV xs kz)),?_,rfl,q D ?_⟩⟩
  ·have I5 : Inv X pins σ Hn s' := I1.pins_of fun q hq=>I1.pin q (List.mem_append_right _ (.tail _ (.tail _ hq)))
   have ez : kz = (xs.zip kz).map (·.2) := (zip_snd hlen).symm
   have eo : EachIs (fun u (b : V × PyData)=>RelV b.1 u) out ((xs.zip kz).mergeSort (dataLe false fun b=>b.2)) := keyedOut_each (fun b : V × PyData=>b.2) (by rw [<- ez]; exact ko) (each_zip rv hlen)
   have hDn : Hn D = none := (I1.pin (D,_) (List.mem_append_right _ (.head _))).2.1
   refine adoptL I5 (ch := [D,S]) (fun b o hb hq=>kp b o (fun z=>hb (by simp [z])) (fun z=>hb (by simp [z])) hq) (fun b hb=>?_) (by simp) ⟨?_,out,c,out_vals eo,by rw [gD']⟩
   ·rcases List.mem_cons.mp hb with rfl | hb
    ·exact fp2 fD hDn
    ·rw [List.mem_singleton.mp hb]; exact fp2 fS hSn'
   ·show (outV xs kz).length <= sizeLine
    unfold outV
    rw [List.length_map,List.length_mergeSort,List.length_zip,hlen,Nat.min_self]
    exact hz
  ·exact (I1.pin (D,_) (List.mem_append_right _ (.head _))).2.1
end
def rSortL (K : PySem.W.Frag) (P : Addr) (q : Str) (j : Nat) (tb : TE) (σ : L2.St) (Q : VK) (v : V) (H1 : Hp) : Prop := ∃ (a : Addr) (ps : Array Value),v = .ref a /\ TabOk H1 P q ps /\ ∀ H2 c',Made4 q P ps H1 H2 c' -> H2 c' = some (CodeO c' q) ->
 ∃ (xs : List V) (kz : List PyData) (JV : Nat -> List V -> Hp -> Prop),SqL K H2 a xs /\ kz.length = xs.length /\ AllAlike kz /\ Sortable kz /\ (∀ d ∈ kz,d.depth <= 2) /\ JV 0 [] H2 /\ (∀ i ks Hi,JV i ks Hi -> Hi c' = some (CodeO c' q)) ∧
  (∀ i x ks Hi,xs[i]? = some x -> JV i ks Hi -> tb (σ.set j (some x)) Hi fun y H'=>JV (i + 1) (ks ++ [y]) H') /\ ∀ ks Hn,JV xs.length ks Hn -> Paired (KR Hn) ks kz /\ ∀ D,Hn D = none -> Q (.ref D) (upd Hn D (.lst (outV xs kz)))
def tSortL (K : PySem.W.Frag) (P : Addr) (q : Str) (j : Nat) (t0 tb : TE) : TE := fun σ H Q=>t0 σ H (rSortL K P q j tb σ Q)
theorem pe_sortL {X : Cx} {x p : Str} {c P : Addr} {j k : Nat} {e : Expr} {params : Arguments} {body : Expr} {scope : Scope} {t0 tb : TE} {np kp lpos pos : Pos} (hg : Gl X x) (hm : X.mg x = none) (hv : bootBuiltins x = some (.builtin "sorted")) (ha : PE X e t0)
  (TB : TabB X.base X.mg c P) (hcode : X.env.code = .ref c) (hr : Room (k + 3) X.A) (L : LamS1 X.env.scope scope p) (hdef : defaultsOf params X.env = ([],[]))
  (hbind : ∀ (q : Str) (cl : List (Str × Addr)) (pm cv ctv u : Value),bindArgs (PySem.W.kla_fn "<lambda>" q params body scope cl pm cv ctv) ⟨[u],[]⟩ = pure [(p,u)])
  (hbody : ∀ (A : Around) (outer : List Env) (s : Shared) (H : Hp) (f c' : Addr),Room k (A.deeper (lamEnv X scope s.heap.objs.size f c')) -> PE (lamCx X A outer s H C8.E0 scope f c') body tb)
  (hj : X.N[j]? = some p) (hu : ∀ i,X.N[i]? = some p -> i = j) (hn : x ≠ "__name__" := by decide) (hdb : (x == ("__debug__" : Str)) = false := by decide)
  (he : backTo pos (starEach [e] X.env) = (false,eval e X.env) :: backTo pos (starEach [] X.env) := by rfl) (hpl : (backTo pos (starEach [e] X.env)).any (·.1) = false := by rfl) (hst : starEach (e :: []) X.env = (false,eval e X.env) :: starEach [] X.env := by rfl) :
  PE X (.Call (.Name x np) [e] [⟨some (Str.ofString "key"),.Lambda params body scope lpos,kp⟩] pos) (tSortL X.K P (X.env.qual ++ "<lambda>") j t0 tb) := by
 refine ⟨fun pins s σ H Q I h=>?_⟩
 refine wpAny_Call_Name_kw (ld_blt I hg hm hv ?_ hn hdb)
 refine PyProof.Rows.callWith_kw (thn ((pa_cons ha pa_nil hst).run pos pins s σ H (fun vs H1=>match vs with | [v]=>rSortL X.K P (X.env.qual ++ "<lambda>") j tb σ Q v H1 | _=>False) I h) fun us s1 ⟨vs,H1,I1,r1,q1⟩=>?_) he hpl (by rfl) (by rfl)
 match vs,r1,q1 with
 | [v],r1,q1 =>
  obtain ⟨a,ps,rfl,hT,q1⟩ := q1
  obtain ⟨u,rfl,ru⟩ : ∃ u,us = [u] /\ RelV (.ref a) u := by
   cases r1 with
   | cons r r'=>cases r'; exact ⟨_,rfl,r⟩
  have e : u = .ref a := ru
  subst e
  show wpAny _ _ (evalAll [(do let v <- eval (.Lambda params body scope lpos) X.env; standAt pos; pure v)]) _ _ s1
  refine wpAny_evalAll_cons (wpAny_bind (make4 I1 TB hcode hT hdef (L.has I.ok) fun f c' pm ctv H2 s2 I2 md hf fp hco=>wpAny_bind (wpAny_standAt (wpAny_pure (wpAny_evalAll_nil ?_)))))
  obtain ⟨xs,kz,JV,h1,h2,h3,h4,h5,h6,h7,h8,h9⟩ := q1 H2 c' md hco
  obtain ⟨its,rv,pl,hz⟩ := I2.list h1
  exact sortC_run I2 rv hz (col_list pl.isList (by rw [<- rv.length]; exact hz)) hr L hf fp (fun u=>hbind _ _ _ _ _ u) (fun A outer s H=>hbody A outer s H f c') hj hu h2 h3 h4 h5 JV h6 h7 h8 h9
 | [],_,q1=>exact False.elim q1
 | _ :: _ :: _,_,q1=>exact False.elim q1
end SrtN
namespace SrtV
open PySem PySem.Spec PySem.W PySem.Calls PyProof.Rows L2 LamX LamY SrtL SrtM SrtN
def rTail (q : Str) (j : Nat) (tb : TE) (σ : L2.St) (Q : VK) (H2 : Hp) (c' : Addr) (xs : List V) : Prop :=
 ∃ (kz : List PyData) (JV : Nat -> List V -> Hp -> Prop),kz.length = xs.length /\ AllAlike kz /\ Sortable kz /\ (∀ d ∈ kz,d.depth <= 2) /\ JV 0 [] H2 /\ (∀ i ks Hi,JV i ks Hi -> Hi c' = some (CodeO c' q)) ∧
  (∀ i x ks Hi,xs[i]? = some x -> JV i ks Hi -> tb (σ.set j (some x)) Hi fun y H'=>JV (i + 1) (ks ++ [y]) H') /\ ∀ ks Hn,JV xs.length ks Hn -> Paired (KR Hn) ks kz /\ ∀ D,Hn D = none -> Q (.ref D) (upd Hn D (.lst (outV xs kz)))
end SrtV
namespace DL
open PySem PySem.Spec PyProof.Rows L2 LamX LamY SrtM SrtN SrtV
variable [TabL]
def KD (d : D) (k : PyData) : Prop := (∃ i : Int,d = .int i /\ k = .int i) \/ ∃ is : List Int,d = .tup (is.map D.int) /\ k = .tuple (is.map PyData.int)
noncomputable def outD (ds : List D) (kz : List PyData) : List D := ((ds.zip kz).mergeSort (PySem.W.dataLe false fun b=>b.2)).map (·.1)
section
variable {K : PySem.W.Frag} {te : TE} {ρ : Env} {Q : D -> Env -> Prop}
theorem made4_re {P : Addr} {q : Str} {F G H H2 : Hp} {σ : L2.St} {ps : Array Value} {c : Addr} (hm : (P,q) ∈ TabL.tabs) (R : RE K F G H σ ρ) (hP : H P = some (.tbl ps)) (ha : ∀ (pos : Pos) (cv : Value),codeAmong pos ps.toList = some cv -> ∃ c,cv = .ref c /\ G c = some (CodeO c q))
  (md : Made4 q P ps H H2 c) : ∃ G2,Ex G G2 /\ RE K F G2 H2 σ ρ /\ G2 c = some (CodeO c q) := by
 obtain ⟨hG,hF,_⟩ := R.wd.tb _ hm
 rcases md with ⟨rfl,pos,hc⟩ | ⟨ps',hc,hcP,rfl,ht',ha'⟩
 ·obtain ⟨c0,e1,e2⟩ := ha pos _ hc
  cases e1
  exact ⟨G,Ex.refl G,R,e2⟩
 ·have hGc := R.wd.g.none hc
  have hGP : G P = none := hG
  have hFP : F P = none := hF
  have R1 := R.new (o := CodeO c q) hc
  have nP : ∀ {a : Addr} {o : HO},H a = some o -> NT o -> a ≠ P := fun ho nt z=>by
   rw [z,hP] at ho; exact nt.2 _ (Option.some.inj ho).symm
  have R2 : RE K F (upd G c (CodeO c q)) (upd (upd H c (CodeO c q)) P (.tbl ps')) σ ρ := by
   refine ⟨⟨fun a o e=>?_,fun a o e=>?_,R1.wd.fg,R1.wd.ft,fun u hu=>?_⟩,R1.sl.step (Ex.refl _) (fun a m=>?_),R1.nd⟩
   ·rw [upd_ne (ne_of_none e hFP)]; exact R1.wd.f a o e
   ·have ne : a ≠ P := fun z=>by rw [z,upd_ne (Ne.symm hcP),hGP] at e; cases e
    rw [upd_ne ne]; exact R1.wd.g a o e
   ·by_cases eu : u.1 = P
    ·have eq : u = (P,q) := fst_inj TabL.nd hu hm eu
     subst eq
     refine ⟨by rw [upd_ne (Ne.symm hcP)]; exact hGP,hFP,ps',upd_same,ht',fun pos cv hcv=>?_⟩
     rcases ha' pos cv hcv with z | z
     ·obtain ⟨c0,e1,e2⟩ := ha pos cv z
      exact ⟨c0,e1,Ex.new hGc _ _ e2⟩
     ·exact ⟨c,z,upd_same⟩
    ·obtain ⟨g1,g2,qs,g3,g4,g5⟩ := R1.wd.tb u hu
     exact ⟨g1,g2,qs,by rw [upd_ne eu]; exact g3,g4,g5⟩
   ·obtain ⟨h1,_,u,hu,nt⟩ := R.sl.own m
    refine ⟨upd_ne (nP hu nt),?_⟩
    rw [upd_ne (ne_of_none hu hc)]; exact h1
  rw [upd_comm hcP] at R2
  exact ⟨_,Ex.new hGc,R2,upd_same⟩
theorem reps_kints {G : Hp} : ∀ {vs : List V} {is : List Int},Reps K G vs (is.map D.int) -> vs = is.map V.int
 | _,[],h=>h.nil_inv
 | _,i :: is,h=>by
  obtain ⟨v,ws,rfl,a,b⟩ := h.cons_inv
  cases a
  rw [reps_kints b]; rfl
theorem kd_kr {F G H : Hp} {y : V} {d : D} {k : PyData} (hg : Ex G H) (h : Rep K G y d) (q : KD d k) : KR H y k := by
 rcases q with ⟨i,rfl,rfl⟩ | ⟨is,rfl,rfl⟩
 ·cases h; exact .inl ⟨i,rfl,rfl⟩
 ·cases h with
  | tup h1 h2=>exact .inr ⟨_,is,rfl,by rw [hg _ _ h1,reps_kints h2],rfl⟩
theorem zip_split {α β γ : Type} : ∀ {xs : List α} {ys : List β} {zs : List γ},ys.length = xs.length -> xs.zip zs = ((xs.zip ys).zip zs).map (fun t=>(t.1.1,t.2)) /\ ys.zip zs = ((xs.zip ys).zip zs).map fun t=>(t.1.2,t.2)
 | [],[],_,_=>⟨rfl,rfl⟩
 | [],_ :: _,_,e=>by simp at e
 | _ :: _,[],_,e=>by simp at e
 | x :: xs,y :: ys,[],_=>⟨rfl,rfl⟩
 | x :: xs,y :: ys,z :: zs,e=>by
  obtain ⟨h1,h2⟩ := zip_split (xs := xs) (ys := ys) (zs := zs) (by simpa using e)
  simp only [List.zip_cons_cons,List.map_cons]
  exact ⟨by rw [h1],by rw [h2]⟩
theorem reps_zip {G : Hp} : ∀ {vs : List V} {ds : List D},Reps K G vs ds -> ∀ t ∈ vs.zip ds,Rep K G t.1 t.2
 | _,_,.nil,_,m=>by simp at m
 | _,_,.cons h r,t,m=>by
  rw [List.zip_cons_cons] at m
  rcases List.mem_cons.mp m with rfl | m
  ·exact h
  ·exact reps_zip r t m
theorem reps_maps {α : Type} {G : Hp} {f : α -> V} {g : α -> D} : ∀ {l : List α},(∀ t ∈ l,Rep K G (f t) (g t)) -> Reps K G (l.map f) (l.map g)
 | [],_=>.nil
 | t :: l,h=>.cons (h t List.mem_cons_self) (reps_maps fun u hu=>h u (List.mem_cons_of_mem _ hu))
theorem reps_out {G : Hp} {vs : List V} {ds : List D} {kz : List PyData} (h : Reps K G vs ds) : Reps K G (outV vs kz) (outD ds kz) := by
 obtain ⟨e1,e2⟩ := zip_split (zs := kz) h.length.symm
 unfold outV outD
 have m1 := List.map_mergeSort (l := (vs.zip ds).zip kz) (f := fun t=>((t.1.1,t.2) : V × PyData)) (r := PySem.W.dataLe false fun t : (V × D) × PyData=>t.2) (s := PySem.W.dataLe false fun b : V × PyData=>b.2) (fun _ _ _ _=>rfl)
 have m2 := List.map_mergeSort (l := (vs.zip ds).zip kz) (f := fun t=>((t.1.2,t.2) : D × PyData)) (r := PySem.W.dataLe false fun t : (V × D) × PyData=>t.2) (s := PySem.W.dataLe false fun b : D × PyData=>b.2) (fun _ _ _ _=>rfl)
 rw [e1,e2,<- m1,<- m2,List.map_map,List.map_map]
 refine reps_maps fun t ht=>?_
 have := (List.mergeSort_perm ((vs.zip ds).zip kz) (PySem.W.dataLe false fun t : (V × D) × PyData=>t.2)).mem_iff.mp ht
 exact reps_zip h t.1 (List.of_mem_zip (a := t.1) (b := t.2) this).1
theorem set_back {α : Type} {l : List α} {j : Nat} {x y : α} (h : l[j]? = some y) : (l.set j x).set j y = l := by
 rw [List.set_set]
 refine List.ext_getElem? fun i=>?_
 by_cases e : j = i
 ·subst e
  rw [List.getElem?_set_self (List.getElem?_eq_some_iff.mp h).1,h]
 ·rw [List.getElem?_set_ne e]
def Keyed (K : PySem.W.Frag) (j : Nat) (tb : TE) (ρ1 : Env) (ds : List D) (kz : List PyData) : Prop := kz.length = ds.length /\ PySem.W.AllAlike kz /\ PySem.W.Sortable kz /\ (∀ k ∈ kz,k.depth <= 2) /\ ρ1[j]? = some .un ∧
 ∀ (i : Nat) (x : D) (k : PyData),ds[i]? = some x -> kz[i]? = some k -> EvW K tb (ρ1.set j (.sh x)) fun y ρ2=>ρ2 = ρ1.set j (.sh x) /\ KD y k
theorem tail_re {q : Str} {j : Nat} {tb : TE} {F G2 H2 : Hp} {σ : L2.St} {c' : Addr} {vs : List V} {ds : List D} {kz : List PyData} {Q' : VK} (R2 : RE K F G2 H2 σ ρ) (hc2 : G2 c' = some (CodeO c' q)) (hr : Reps K G2 vs ds) (hK : Keyed K j tb ρ ds kz)
  (fin : ∀ (D : Addr) (G' H' : Hp),Ex G2 G' -> RE K F G' H' σ ρ -> G' D = none -> F D = none -> D ∉ ownA ρ -> OwnR K G' (H' D) (.lst (outD ds kz)) -> Q' (.ref D) H') : rTail q j tb σ Q' H2 c' vs := by
 obtain ⟨hlen,h1,h2,h3,hun,hk⟩ := hK
 have hvl : vs.length = ds.length := hr.length
 obtain ⟨s,hs,_⟩ := R2.sl.get hun
 refine ⟨kz,fun i ks Hi=>∃ Gi,Ex G2 Gi /\ RE K F Gi Hi σ ρ /\ Paired (fun y k=>∃ d,Rep K Gi y d /\ KD d k) ks (kz.take i),by rw [hlen,hvl],h1,h2,h3,⟨G2,Ex.refl _,R2,by rw [List.take_zero]; exact .nil⟩,fun i ks Hi ⟨Gi,e3,R3,_⟩=>R3.wd.g _ _ (e3 _ _ hc2),fun i x ks Hi hx ⟨Gi,e3,R3,hp⟩=>?_,fun ks Hn ⟨Gn,e3,R3,hp⟩=>?_⟩
 ·obtain ⟨dx,hdx,rx⟩ := hr.getV hx
  obtain ⟨kx,hkx⟩ : ∃ kx,kz[i]? = some kx := ⟨_,List.getElem?_eq_getElem (by rw [hlen]; exact (List.getElem?_eq_some_iff.mp hdx).1)⟩
  refine hk i dx kx hdx hkx F Gi Hi (σ.set j (some x)) (R3.setSh (rx.mono e3) j) _ fun y dy ρ2 G4 H4 e4 R4 hy w=>?_
  obtain ⟨rfl,kd⟩ := w
  have R5 := R4.setUn (s := s) j
  rw [set_back hs,set_back hun] at R5
  refine ⟨G4,e3.trans e4,R5,?_⟩
  rw [List.take_add_one,hkx]
  have mono : ∀ {as : List V} {bs : List PyData},Paired (fun y k=>∃ d,Rep K Gi y d /\ KD d k) as bs -> Paired (fun y k=>∃ d,Rep K G4 y d /\ KD d k) (as ++ [y]) (bs ++ [kx]) := fun {as}=>by
   induction as with
   | nil=>intro bs p; cases p; exact .cons ⟨dy,hy,kd⟩ .nil
   | cons a as ih =>
    intro bs p
    cases p with
    | cons p1 p2 =>
     obtain ⟨d,w1,w2⟩ := p1
     exact .cons ⟨d,w1.mono e4,w2⟩ (ih p2)
  exact mono hp
 ·rw [List.take_of_length_le (by rw [hlen,hvl]; exact Nat.le_refl _)] at hp
  have all : ∀ {as : List V} {bs : List PyData},Paired (fun y k=>∃ d,Rep K Gn y d /\ KD d k) as bs -> Paired (KR Hn) as bs := fun {as}=>by
   induction as with
   | nil=>intro bs p; cases p; exact .nil
   | cons a as ih =>
    intro bs p
    cases p with
    | cons p1 p2 =>
     obtain ⟨d,w1,w2⟩ := p1
     exact .cons (kd_kr (F := F) R3.wd.g w1 w2) (ih p2)
  refine ⟨all hp,fun D hD=>?_⟩
  have hFD : F D = none := R3.wd.f.none hD
  have hGD : Gn D = none := R3.wd.g.none hD
  exact fin D Gn _ e3 (R3.alone hD) hGD hFD (fun m=>by obtain ⟨_,_,u,hu,_⟩ := R3.sl.own m; rw [hD] at hu; cases hu) ⟨outV vs kz,upd_same,reps_out (hr.mono e3)⟩
theorem en_sortL {P : Addr} {q : Str} {j : Nat} {t0 tb : TE} (hm : (P,q) ∈ TabL.tabs)
  (h : EvW K t0 ρ fun d ρ1=>∃ (ds : List D) (kz : List PyData),d = .lst ds /\ Keyed K j tb ρ1 ds kz /\ Q (.lst (outD ds kz)) ρ1) : EvN K (tSortL K P q j t0 tb) ρ Q := fun F G H σ R Q' k=>by
 refine h F G H σ R _ fun v d ρ1 G1 H1 e1 R1 hv z=>?_
 obtain ⟨ds,kz,rfl,hK,hq⟩ := z
 cases hv with
 | @lst a vs _ ha hr =>
  obtain ⟨hG,hF,ps,hP,ht,hca⟩ := R1.wd.tb _ hm
  refine ⟨a,ps,rfl,⟨hP,ht,fun pos cv hc=>?_⟩,fun H2 c' md hco=>?_⟩
  ·obtain ⟨c,e1,e2⟩ := hca pos cv hc
   exact ⟨c,e1,R1.wd.g _ _ e2⟩
  obtain ⟨G2,e2,R2,hc2⟩ := made4_re hm R1 hP hca md
  obtain ⟨kz,JV,t⟩ := tail_re (Q' := Q') R2 hc2 (hr.mono e2) hK fun D G' H' e3 R3 g1 g2 g3 g4=>k D (.lst (outD ds kz)) ρ1 G' H' ((e1.trans e2).trans e3) R3 g1 g2 g3 g4 hq
  exact ⟨vs,kz,JV,.inl (.inl (R2.wd.g _ _ (e2 _ _ ha))),t⟩
end
end DL
namespace DL
open PySem PySem.Spec PyProof.Rows L2 LamX LamY SrtM SrtN SrtV
variable [TabL]
theorem op2_eq_nonS {K : PySem.W.Frag} {ρ : DL.Env} {Q : D -> DL.Env -> Prop} {i : Str} (q : Q (.bl false) ρ) : Op2 K rEq .non (.str i) ρ Q := fun F G H σ R v w hv hw Q' k=>by
 have e1 := rep_non hv
 have e2 := rep_str hw
 subst e1 e2
 exact ⟨rfl,k _ _ ρ G H (Ex.refl G) R (.bl _) q⟩
section
variable {α : Type} {f : α -> D}
theorem outD_key (xs : List α) (k : α -> PyData) : outD (xs.map f) (xs.map k) = (xs.mergeSort (PySem.W.dataLe false k)).map f := by
 unfold outD
 have e : (xs.map f).zip (xs.map k) = xs.map fun x=>(f x,k x) := by
  rw [List.zip_map']
 have m := List.map_mergeSort (l := xs) (f := fun x=>((f x,k x) : D × PyData)) (r := PySem.W.dataLe false k) (s := PySem.W.dataLe false fun b : D × PyData=>b.2) (fun _ _ _ _=>rfl)
 rw [e,<- m,List.map_map]
 rfl
theorem outD_int (xs : List α) (k : α -> Int) : outD (xs.map f) (xs.map fun x=>PyData.int (k x)) = (xs.mergeSort fun a b=>decide (k a <= k b)).map f := by
 rw [outD_key,PySem.W.dataLe_int]
variable {K : PySem.W.Frag} {j : Nat} {tb : TE} {ρ : Env}
theorem keyed_int {xs : List α} {k : α -> Int} (hu : ρ[j]? = some .un) (h : ∀ x ∈ xs,EvW K tb (ρ.set j (.sh (f x))) fun y ρ2=>ρ2 = ρ.set j (.sh (f x)) /\ y = .int (k x)) : Keyed K j tb ρ (xs.map f) (xs.map fun x=>PyData.int (k x)) := by
 refine ⟨by rw [List.length_map,List.length_map],PySem.W.AllAlike.of fun _ _=>by simp [PySem.W.alike],PySem.W.Sortable.others fun _=>⟨fun z=>(nomatch z),fun _ z=>(nomatch z)⟩,fun d hd=>?_,hu,fun i x kx hx hk=>?_⟩
 ·obtain ⟨x,_,rfl⟩ := List.mem_map.mp hd
  simp [PyData.depth]
 ·rw [List.getElem?_map] at hx hk
  obtain ⟨a,ha,rfl⟩ := Option.map_eq_some_iff.mp hx
  rw [ha] at hk
  cases hk
  refine fun F G H σ R Q' c=>h a (List.mem_of_getElem? ha) F G H σ R Q' fun v d ρ' G' H' e R' hv q=>c v d ρ' G' H' e R' hv ⟨q.1,.inl ⟨_,q.2,rfl⟩⟩
end
end DL
namespace DL
open PySem PySem.Spec PyProof.Rows L2 LamX LamY
variable [TabL]
section
variable {K : PySem.W.Frag} {te tk tv : TE} {tt : TT} {ρ : Env} {Q : D -> Env -> Prop}
theorem en_lockE {T : TE} {d0 : D} (hold : HeldE K te ρ d0) (hd : d0.isDict = true)
  (body : ∀ F G H σ a od,RE K F G H σ ρ -> (∀ Q' : VK,Q' (.ref a) H -> te σ H Q') -> FzD K G a od d0 -> ∀ Q' : VK,(∀ p d ρ' G' H',Ex G G' -> RE K F G' H' σ ρ' -> G' p = none -> F p = none -> p ∉ ownA ρ' -> OwnR K G' (H' p) d -> Q d ρ' -> Q' (.ref p) H') -> T σ H Q') :
  EvN K (fun σ H Q=>tLockE T σ H Q \/ T σ H Q) ρ Q := fun F G H σ R Q' k=>by
 obtain ⟨a,hv,ht⟩ := hold F G H σ R
 obtain ⟨a',u,e,hu,hcase⟩ := dict_at hv hd
 cases e
 rcases hcase with ⟨hG,fz⟩ | ⟨od,fz⟩
 ·refine .inl ⟨a,u,R.wd.g _ _ hG,hu.mu,fun od=>?_⟩
  have x := rdx_lockU (od := od) hu hG
  have R1 := R.relock (u' := .frz od u) hG x hu.nt hu.nc
  refine body F _ _ σ a od R1 (ht _ _ x R1) (fz od _ upd_same x) (fun v H'=>H' a = some (.frz od u) /\ Q' v (upd H' a u)) fun p d ρ' G' H' e R' hp hF hO o q=>?_
  have hG' := e _ _ (upd_same (H := G) (a := a) (o := .frz od u))
  have x2 := rdx_unlockU hu hG'
  have ne : p ≠ a := fun z=>by rw [z,hG'] at hp; cases hp
  exact ⟨R'.wd.g _ _ hG',k p d ρ' (upd G' a u) _ (ex_unlock hG e) (R'.relock hG' x2 (fun xs z=>nomatch z) (fun c q z=>by unfold LamX.CodeO at z; cases z)) (by rw [upd_ne ne]; exact hp) hF hO (by rw [upd_ne ne]; exact o.rdx x2) q⟩
 ·exact .inr (body F G H σ a od R (ht G H ⟨fun _ _ _ z=>z,fun _ _ _ _ z=>z,fun _ _ z=>z,fun _ _ z=>z,fun _ _ z=>z,fun _ _ z=>z⟩ R) fz Q' k)
theorem en_lcE2 {wi : TE -> TI} {g : TG} {vs : List Nat} {d0 : D} {ds : List D} (hold : HeldE K te ρ d0) (hd : d0.isDict = true) (W : WalkE K wi d0 ds) (hv0 : ownFree ρ vs = true) (hlen : ds.length <= 90000) (P : Nat -> List D -> Prop) (p0 : P 0 [])
   (turn : ∀ i d acc,ds[i]? = some d -> P i acc -> GV K g vs d (wipeE ρ vs) fun ρ2=>EvT K tt ρ2 fun b ρ3=>ρ3 = ρ2 /\ if b = true then EvW K tv ρ2 fun y ρ4=>ρ4 = ρ2 /\ P (i + 1) (acc ++ [y]) else P (i + 1) acc)
   (fin : ∀ acc,P ds.length acc -> Q (.lst acc) ρ) : EvN K (fun σ H Q=>tLockE (tLc (wi te) g tt tv vs) σ H Q \/ tLc (wi te) g tt tv vs σ H Q) ρ Q :=
 en_lockE hold hd fun F G H σ a od R ht fz Q' k=>W te F G H σ ρ a od R ht fz _ fun J Y=>lc_core R Y hv0 hlen P p0 turn fin Q' k
end
end DL
namespace DL
open PySem PySem.Spec PyProof.Rows L2 SrtK
variable [TabL]
inductive NK where
 | lst | dk (ks : List Key) | dt (ks : List (List Key)) | ins (C : Str) (fs : List Str)
inductive TD where
 | sh (d : D) | nd (k : NK) (xs : List TD) | tp (xs : List TD)
def NK.d : NK -> List D -> D
 | .lst,xs=>.lst xs
 | .dk ks,xs=>.dk (ks.zip xs)
 | .dt ks,xs=>.dt (ks.zip xs)
 | .ins C fs,xs=>.ins C (fs.zip xs)
mutual
def TD.d : TD -> D
 | .sh d=>d
 | .nd k xs=>k.d (TD.ds xs)
 | .tp xs=>.tup (TD.ds xs)
def TD.ds : List TD -> List D
 | []=>[]
 | x :: xs=>x.d :: TD.ds xs
end
theorem TD.ds_map : ∀ xs : List TD,TD.ds xs = xs.map TD.d
 | []=>by unfold TD.ds; rfl
 | x :: xs=>by unfold TD.ds; rw [TD.ds_map xs]; rfl
theorem TD.d_nd (k : NK) (xs : List TD) : (TD.nd k xs).d = k.d (xs.map TD.d) := by
 show (TD.nd k xs).d = _
 unfold TD.d
 rw [TD.ds_map]
theorem TD.d_tp (xs : List TD) : (TD.tp xs).d = .tup (xs.map TD.d) := by
 show (TD.tp xs).d = _
 unfold TD.d
 rw [TD.ds_map]
theorem TD.d_sh (d : D) : (TD.sh d).d = d := by unfold TD.d; rfl
theorem TD.map_sh (ds : List D) : (ds.map TD.sh).map TD.d = ds := by
 rw [List.map_map]
 induction ds with
 | nil=>rfl
 | cons x xs ih=>rw [List.map_cons,ih]; show (TD.sh x).d :: xs = _; rw [TD.d_sh]
def NK.Ok (K : PySem.W.Frag) : NK -> List V -> HO -> Prop
 | .lst,vs,o=>o = .lst vs
 | .dk ks,vs,o=>ks.length = vs.length /\ ks.Nodup /\ o = .dK (ks.zip vs)
 | .dt ks,vs,o=>ks.length = vs.length /\ ks.Nodup /\ o = .dT (ks.zip vs)
 | .ins C fs,vs,o=>fs.length = vs.length /\ fs.Nodup /\ ∃ dx,o = .ins (He.ga K C) dx (fs.zip vs)
mutual
inductive Tr (K : PySem.W.Frag) (G H : Hp) : V -> TD -> List Addr -> Prop
 | sh {v : V} {d : D} : Rep K G v d -> Tr K G H v (.sh d) []
 | nd {a : Addr} {o : HO} {k : NK} {vs : List V} {xs : List TD} {S : List Addr} : H a = some o -> NK.Ok K k vs o -> Trs K G H vs xs S -> Tr K G H (.ref a) (.nd k xs) (a :: S)
 | tp {a : Addr} {vs : List V} {xs : List TD} {S : List Addr} : G a = some (.tup vs) -> Trs K G H vs xs S -> Tr K G H (.ref a) (.tp xs) S
inductive Trs (K : PySem.W.Frag) (G H : Hp) : List V -> List TD -> List Addr -> Prop
 | nil : Trs K G H [] [] []
 | cons {v : V} {vs : List V} {x : TD} {xs : List TD} {S S' : List Addr} : Tr K G H v x S -> Trs K G H vs xs S' -> Trs K G H (v :: vs) (x :: xs) (S ++ S')
end
section
variable {K : PySem.W.Frag}
theorem NK.Ok.mut {k : NK} {vs : List V} {o : HO} (h : NK.Ok K k vs o) : Mut (some o) := by
 cases k with
 | lst=>obtain rfl := h; trivial
 | dk ks=>obtain ⟨_,_,rfl⟩ := h; trivial
 | dt ks=>obtain ⟨_,_,rfl⟩ := h; trivial
 | ins C fs=>obtain ⟨_,_,dx,rfl⟩ := h; trivial
theorem Trs.length {G H : Hp} : ∀ {vs : List V} {xs : List TD} {S : List Addr},Trs K G H vs xs S -> vs.length = xs.length
 | _,_,_,.nil=>rfl
 | _,_,_,.cons _ r=>by simp [Trs.length r]
mutual
theorem Tr.step {G H G' H' : Hp} (e : RdX G G') : ∀ {v : V} {x : TD} {S : List Addr},(∀ a ∈ S,H' a = H a) -> Tr K G H v x S -> Tr K G' H' v x S
 | _,_,_,_,.sh h=>.sh (h.rdx e)
 | _,_,_,k,.nd h1 h2 h3=>.nd (by rw [k _ List.mem_cons_self]; exact h1) h2 (Trs.step e (fun a m=>k a (List.mem_cons_of_mem _ m)) h3)
 | _,_,_,k,.tp h1 h3=>.tp (e.2.2.2.1 _ _ h1) (Trs.step e k h3)
theorem Trs.step {G H G' H' : Hp} (e : RdX G G') : ∀ {vs : List V} {xs : List TD} {S : List Addr},(∀ a ∈ S,H' a = H a) -> Trs K G H vs xs S -> Trs K G' H' vs xs S
 | _,_,_,_,.nil=>.nil
 | _,_,_,k,.cons h r=>.cons (Tr.step e (fun a m=>k a (List.mem_append_left _ m)) h) (Trs.step e (fun a m=>k a (List.mem_append_right _ m)) r)
end
mutual
theorem Tr.mem {G H : Hp} : ∀ {v : V} {x : TD} {S : List Addr},Tr K G H v x S -> ∀ a ∈ S,∃ u,H a = some u /\ Mut (some u)
 | _,_,_,.sh _,a,m=>by cases m
 | _,_,_,.nd h1 h2 h3,a,m=>by
  rcases List.mem_cons.mp m with rfl | m
  ·exact ⟨_,h1,h2.mut⟩
  ·exact Trs.mem h3 a m
 | _,_,_,.tp _ h3,a,m=>Trs.mem h3 a m
theorem Trs.mem {G H : Hp} : ∀ {vs : List V} {xs : List TD} {S : List Addr},Trs K G H vs xs S -> ∀ a ∈ S,∃ u,H a = some u /\ Mut (some u)
 | _,_,_,.nil,a,m=>by cases m
 | _,_,_,.cons h r,a,m=>by
  rcases List.mem_append.mp m with m | m
  ·exact Tr.mem h a m
  ·exact Trs.mem r a m
end
theorem zip_fst {α β : Type} : ∀ {ks : List α} {vs : List β},ks.length = vs.length -> (ks.zip vs).map (·.1) = ks
 | [],_,_=>rfl
 | _ :: _,[],h=>by cases h
 | k :: ks,v :: vs,h=>by show k :: (ks.zip vs).map (·.1) = _; rw [zip_fst (by simpa using h)]
theorem zip_snd {α β : Type} : ∀ {ks : List α} {vs : List β},ks.length = vs.length -> (ks.zip vs).map (·.2) = vs
 | [],[],_=>rfl
 | [],_ :: _,h=>by cases h
 | _ :: _,[],h=>by cases h
 | k :: ks,v :: vs,h=>by show v :: (ks.zip vs).map (·.2) = _; rw [zip_snd (by simpa using h)]
theorem zip_un {α β : Type} : ∀ ps : List (α × β),(ps.map (·.1)).zip (ps.map (·.2)) = ps
 | []=>rfl
 | p :: ps=>by show (p.1,p.2) :: (ps.map (·.1)).zip (ps.map (·.2)) = _; rw [zip_un ps]
mutual
theorem Tr.rep {G H G' : Hp} (e : Ex G G') : ∀ {v : V} {x : TD} {S : List Addr},(∀ a ∈ S,G' a = H a) -> Tr K G H v x S -> Rep K G' v x.d
 | _,_,_,_,.sh h=>by rw [TD.d_sh]; exact h.mono e
 | _,_,_,k,.tp h1 h3=>by rw [TD.d_tp]; exact .tup (e _ _ h1) (Trs.rep e k h3)
 | _,_,_,k,.nd (k := nk) (xs := xs) (vs := vs) h1 h2 h3=>by
  have r := Trs.rep e (fun a m=>k a (List.mem_cons_of_mem _ m)) h3
  have hl := h3.length
  rw [TD.d_nd]
  have h1' := (k _ List.mem_cons_self).trans h1
  cases nk with
  | lst=>obtain rfl := h2; exact .lst h1' r
  | dk ks =>
   obtain ⟨l,_,rfl⟩ := h2
   have l2 : ks.length = (xs.map TD.d).length := by rw [List.length_map,<- hl]; exact l
   exact .dk (.inl h1') (by rw [zip_fst l,zip_fst l2]) (by rw [zip_snd l,zip_snd l2]; exact r)
  | dt ks =>
   obtain ⟨l,_,rfl⟩ := h2
   have l2 : ks.length = (xs.map TD.d).length := by rw [List.length_map,<- hl]; exact l
   exact .dt (.inl h1') (by rw [zip_fst l,zip_fst l2]) (by rw [zip_snd l,zip_snd l2]; exact r)
  | ins C fs =>
   obtain ⟨l,_,dx,rfl⟩ := h2
   have l2 : fs.length = (xs.map TD.d).length := by rw [List.length_map,<- hl]; exact l
   exact .ins h1' (by rw [zip_fst l,zip_fst l2]) (by rw [zip_snd l,zip_snd l2]; exact r)
theorem Trs.rep {G H G' : Hp} (e : Ex G G') : ∀ {vs : List V} {xs : List TD} {S : List Addr},(∀ a ∈ S,G' a = H a) -> Trs K G H vs xs S -> Reps K G' vs (xs.map TD.d)
 | _,_,_,_,.nil=>.nil
 | _,_,_,k,.cons h r=>.cons (Tr.rep e (fun a m=>k a (List.mem_append_left _ m)) h) (Trs.rep e (fun a m=>k a (List.mem_append_right _ m)) r)
end
theorem Trs.split {G H : Hp} : ∀ {vs : List V} {xs : List TD} {S : List Addr} {j : Nat} {x : TD},Trs K G H vs xs S -> xs[j]? = some x ->
  ∃ v L Sj R,vs[j]? = some v /\ S = L ++ Sj ++ R /\ Tr K G H v x Sj /\ ∀ (G' H' : Hp) (v' : V) (x' : TD) (S' : List Addr),RdX G G' -> (∀ b ∈ L ++ R,H' b = H b) -> Tr K G' H' v' x' S' -> Trs K G' H' (vs.set j v') (xs.set j x') (L ++ S' ++ R)
 | _,_,_,_,_,.nil,h=>by simp at h
 | _,_,_,0,x,.cons (S := S) (S' := S') h r,hx=>by
  simp at hx; subst hx
  refine ⟨_,[],S,S',rfl,rfl,h,fun G' H' v' x' T e k t=>?_⟩
  exact .cons t (r.step e fun a m=>k a m)
 | _,_,_,j + 1,x,.cons (v := v0) (x := x0) (S := S) (S' := S') h r,hx=>by
  obtain ⟨v,L,Sj,R,h1,h2,h3,h4⟩ := Trs.split (j := j) r (by simpa using hx)
  refine ⟨v,S ++ L,Sj,R,by simpa using h1,by rw [h2]; simp [List.append_assoc],h3,fun G' H' v' x' T e k t=>?_⟩
  have q := h4 G' H' v' x' T e (fun b m=>k b (by
   rcases List.mem_append.mp m with m | m
   ·exact List.mem_append_left _ (List.mem_append_right _ m)
   ·exact List.mem_append_right _ m)) t
  have c := Trs.cons (h.step e fun a m=>k a (List.mem_append_left _ (List.mem_append_left _ m))) q
  rw [List.set_cons_succ,List.set_cons_succ]
  have ee : S ++ L ++ T ++ R = S ++ (L ++ T ++ R) := by simp [List.append_assoc]
  rw [ee]; exact c
theorem Trs.leaves {G H : Hp} : ∀ {vs : List V} {ds : List D},Reps K G vs ds -> Trs K G H vs (ds.map TD.sh) []
 | _,_,.nil=>.nil
 | _,_,.cons h r=>Trs.cons (S := []) (.sh h) (Trs.leaves r)
def TD.at : TD -> List Nat -> Option TD
 | t,[]=>some t
 | .sh _,_ :: _=>none
 | .tp _,_ :: _=>none
 | .nd _ xs,j :: p=>match xs[j]? with
  | some x=>x.at p
  | none=>none
def TD.upd : TD -> List Nat -> TD -> TD
 | _,[],u=>u
 | .sh d,_ :: _,_=>.sh d
 | .tp xs,_ :: _,_=>.tp xs
 | .nd k xs,j :: p,u=>match xs[j]? with
  | some x=>.nd k (xs.set j (x.upd p u))
  | none=>.nd k xs
def kidsO : HO -> List V
 | .lst vs=>vs
 | .dK kvs=>kvs.map (·.2)
 | .dT kvs=>kvs.map (·.2)
 | .ins _ _ fs=>fs.map (·.2)
 | _=>[]
theorem NK.Ok.kids {k : NK} {vs : List V} {o : HO} (h : NK.Ok K k vs o) : kidsO o = vs := by
 cases k with
 | lst=>obtain rfl := h; rfl
 | dk ks=>obtain ⟨l,_,rfl⟩ := h; exact zip_snd l
 | dt ks=>obtain ⟨l,_,rfl⟩ := h; exact zip_snd l
 | ins C fs=>obtain ⟨l,_,dx,rfl⟩ := h; exact zip_snd l
def pv (H : Hp) : V -> List Nat -> Option V
 | v,[]=>some v
 | .ref a,j :: p=>(H a).bind fun o=>((kidsO o)[j]?).bind fun w=>pv H w p
 | _,_ :: _=>none
theorem Tr.focus {G H : Hp} : ∀ (p : List Nat) {v : V} {t : TD} {S : List Addr} {t1 : TD},Tr K G H v t S -> t.at p = some t1 ->
  ∃ v1 S1 L R,pv H v p = some v1 /\ S = L ++ S1 ++ R /\ Tr K G H v1 t1 S1 /\ ∀ (G' H' : Hp) (t' : TD) (S' : List Addr),RdX G G' -> (∀ b ∈ L ++ R,H' b = H b) -> Tr K G' H' v1 t' S' -> Tr K G' H' v (t.upd p t') (L ++ S' ++ R)
 | [],v,t,S,t1,h,ht=>by
  have e : t = t1 := by
   cases t <;> (unfold TD.at at ht; exact Option.some.inj ht)
  subst e
  refine ⟨v,S,[],[],by unfold pv; rfl,by simp,h,fun G' H' t' S' _ _ h'=>?_⟩
  have e2 : t.upd [] t' = t' := by cases t <;> (unfold TD.upd; rfl)
  rw [e2,List.nil_append,List.append_nil]
  exact h'
 | j :: p,v,t,S,t1,h,ht=>by
  cases h with
  | sh h=>unfold TD.at at ht; cases ht
  | tp h=>unfold TD.at at ht; cases ht
  | @nd a o k vs xs S h1 h2 h3 =>
   unfold TD.at at ht
   cases hx : xs[j]? with
   | none=>rw [hx] at ht; cases ht
   | some x =>
    rw [hx] at ht
    obtain ⟨w,L,Sj,R,e1,e2,e3,e4⟩ := h3.split hx
    obtain ⟨v1,S1,L1,R1,f1,f2,f3,f4⟩ := Tr.focus p e3 ht
    refine ⟨v1,S1,a :: (L ++ L1),R1 ++ R,?_,?_,f3,fun G' H' t' S' e k' h'=>?_⟩
    ·show ((H a).bind fun o=>((kidsO o)[j]?).bind fun w=>pv H w p) = _
     rw [h1]
     show ((kidsO o)[j]?).bind (fun w=>pv H w p) = _
     rw [h2.kids,e1]
     exact f1
    ·rw [e2,f2]; simp [List.append_assoc]
    ·have kk : ∀ b,b = a \/ b ∈ L \/ b ∈ L1 \/ b ∈ R1 \/ b ∈ R -> H' b = H b := fun b m=>k' b (by
      simp only [List.mem_append,List.mem_cons]
      rcases m with z | z | z | z | z
      ·exact .inl (.inl z)
      ·exact .inl (.inr (.inl z))
      ·exact .inl (.inr (.inr z))
      ·exact .inr (.inl z)
      ·exact .inr (.inr z))
     have q := f4 G' H' t' S' e (fun b m=>kk b (by
      rcases List.mem_append.mp m with z | z
      ·exact .inr (.inr (.inl z))
      ·exact .inr (.inr (.inr (.inl z))))) h'
     have q2 := e4 G' H' w _ _ e (fun b m=>kk b (by
      rcases List.mem_append.mp m with z | z
      ·exact .inr (.inl z)
      ·exact .inr (.inr (.inr (.inr z))))) q
     have ew : vs.set j w = vs := by
      obtain ⟨hl,hx⟩ := List.getElem?_eq_some_iff.mp e1
      rw [<- hx,List.set_getElem_self]
     rw [ew] at q2
     have q3 := Tr.nd (K := K) (G := G') (H := H') (by rw [kk a (.inl rfl)]; exact h1) h2 q2
     have eS : (a :: (L ++ L1)) ++ S' ++ (R1 ++ R) = a :: (L ++ (L1 ++ S' ++ R1) ++ R) := by simp [List.append_assoc]
     have et : (TD.nd k xs).upd (j :: p) t' = .nd k (xs.set j (x.upd p t')) := by
      show (match xs[j]? with | some x=>TD.nd k (xs.set j (x.upd p t')) | none=>.nd k xs) = _
      rw [hx]
     rw [eS,et]
     exact q3
def trφ (K : PySem.W.Frag) (v : V) (S : List Addr) (t : TD) : Option V -> Hp -> Hp -> Prop := fun s G H=>s = some v /\ Tr K G H v t S
def tr (K : PySem.W.Frag) (v : V) (S : List Addr) (t : TD) : Sl := .any S (trφ K v S t)
theorem tr_loc {v : V} {S : List Addr} {t : TD} : Loc S (trφ K v S t) := fun s G G' H H' e k h=>⟨h.1,h.2.step e k⟩
theorem tr_slot {F G H : Hp} {s : Option V} {v : V} {S : List Addr} {t : TD} (h : trφ K v S t s G H) (k : ∀ b ∈ S,G b = none /\ F b = none) : SlotOk K F G H s (tr K v S t) :=
 ⟨h,tr_loc,fun b m=>⟨(k b m).1,(k b m).2,by obtain ⟨u,hu,hm⟩ := h.2.mem b m; exact ⟨u,hu,nt_mut hm⟩⟩⟩
theorem tr_adr {v : V} {S : List Addr} {t : TD} : (tr K v S t).adr = S := rfl
end
end DL
namespace DL
open PySem PySem.Spec PyProof.Rows L2 SrtK
variable [TabL]
section
variable {K : PySem.W.Frag} {te ta tb tc td ty tv tx tk : TE} {tt tu : TT} {ts : TA} {t u : TS} {ρ : Env} {E : EndD}
theorem RE.pend {F G H : Hp} {σ : L2.St} {v : V} {x : TD} {S : List Addr} (R : RE K F G H σ ρ) (t : Tr K G H v x S) (fr : ∀ a ∈ S,G a = none /\ F a = none /\ a ∉ ownA ρ) :
  RE K (addF F H S) G H σ ρ /\ ∀ (σ' : L2.St) (ρ' : Env) (G' H' : Hp),RE K (addF F H S) G' H' σ' ρ' -> Ex G G' -> RE K F G' H' σ' ρ' /\ Tr K G' H' v x S /\ (∀ a ∈ S,H' a = H a) /\ ∀ a ∈ S,G' a = none /\ F a = none /\ a ∉ ownA ρ' := by
 have nt : ∀ a ∈ S,∃ u,H a = some u /\ NT u := fun a m=>by obtain ⟨u,h1,h2⟩ := t.mem a m; exact ⟨u,h1,nt_mut h2⟩
 have tbo : ∀ t ∈ TabL.tabs,t.1 ∉ S := fun t ht m=>by
  obtain ⟨u,h1,h2⟩ := nt _ m
  exact R.wd.tb.ne h1 h2 t ht rfl
 refine ⟨⟨⟨fun a u e=>?_,R.wd.g,fun a u e=>?_,fun a vs e=>?_,R.wd.tb.step (fun _ _ z=>z) fun t ht=>⟨rfl,(R.wd.tb t ht).1,?_⟩⟩,R.sl.map fun i s r hs hr q=>q.frm fun a m=>?_,R.nd⟩,fun σ' ρ' G' H' R' e=>?_⟩
 ·by_cases m : a ∈ S
  ·rw [addF_in m] at e; exact e
  ·rw [addF_out m] at e; exact R.wd.f a u e
 ·by_cases m : a ∈ S
  ·exact (fr a m).1
  ·rw [addF_out m] at e; exact R.wd.fg a u e
 ·by_cases m : a ∈ S
  ·rw [addF_in m] at e
   obtain ⟨u,h1,h2⟩ := nt a m
   rw [h1] at e
   exact h2.1 vs (Option.some.inj e)
  ·rw [addF_out m] at e; exact R.wd.ft a vs e
 ·rw [addF_out (tbo t ht)]; exact (R.wd.tb t ht).2.1
 ·have mo := adr_mem hr m
  rw [addF_out fun z=>(fr a z).2.2 mo]
  exact (R.sl.own mo).2.1
 ·have keep : ∀ a ∈ S,H' a = H a /\ G' a = none := fun a m=>by
   obtain ⟨u,h1,_⟩ := nt a m
   have h2 : addF F H S a = some u := by rw [addF_in m]; exact h1
   exact ⟨by rw [h1]; exact R'.wd.f a u h2,R'.wd.fg a u h2⟩
  have outF : ∀ {a},addF F H S a = none -> F a = none := fun {a} h=>by
   by_cases m : a ∈ S
   ·exact (fr a m).2.1
   ·rw [addF_out m] at h; exact h
  refine ⟨⟨⟨fun a u h=>?_,R'.wd.g,fun a u h=>?_,R.wd.ft,R'.wd.tb.step (fun _ _ z=>z) fun t ht=>⟨rfl,(R'.wd.tb t ht).1,(R.wd.tb t ht).2.1⟩⟩,R'.sl.map fun i s r hs hr q=>q.frm fun a m=>outF (R'.sl.own (adr_mem hr m)).2.1,R'.nd⟩,t.step e.rdx fun a m=>(keep a m).1,fun a m=>(keep a m).1,fun a m=>⟨(keep a m).2,(fr a m).2.1,fun z=>?_⟩⟩
  ·have m : a ∉ S := fun m=>by rw [(fr a m).2.1] at h; cases h
   exact R'.wd.f a u (by rw [addF_out m]; exact h)
  ·have m : a ∉ S := fun m=>by rw [(fr a m).2.1] at h; cases h
   exact R'.wd.fg a u (by rw [addF_out m]; exact h)
  ·have h1 := (R'.sl.own z).2.1
   obtain ⟨u,h2,_⟩ := nt a m
   rw [addF_in m,h2] at h1; cases h1
theorem set_set_id {α : Type} {xs : List α} {i : Nat} {x y : α} (h : xs[i]? = some x) : (xs.set i y).set i x = xs := by
 rw [List.set_set]
 obtain ⟨hl,hx⟩ := List.getElem?_eq_some_iff.mp h
 rw [<- hx,List.set_getElem_self]
theorem sset_id {α : Type} {xs : List α} {i : Nat} {x : α} (h : xs[i]? = some x) : xs.set i x = xs := by
 obtain ⟨hl,hx⟩ := List.getElem?_eq_some_iff.mp h
 rw [<- hx,List.set_getElem_self]
theorem RE.by1 {F G H : Hp} {σ : L2.St} {i : Nat} {v : V} {S : List Addr} {x : TD} (R : RE K F G H σ ρ) (hi : ρ[i]? = some (tr K v S x)) :
  σ[i]? = some (some v) /\ Tr K G H v x S /\ RE K (addF F H S) G H σ (ρ.set i .un) /\ ∀ (G' H' : Hp) (ρ' : Env),RE K (addF F H S) G' H' σ ρ' -> Ex G G' -> RE K F G' H' σ (ρ'.set i (tr K v S x)) /\ ∀ a ∈ S,H' a = H a := by
 obtain ⟨s,hs,⟨rfl,ht⟩,_,own⟩ := R.sl.get hi
 have Ru := R.forget hi hs
 have out : ∀ a ∈ S,a ∉ ownA (ρ.set i .un) := fun a m z=>by
  have sz : i < ρ.length := (List.getElem?_eq_some_iff.mp hi).1
  obtain ⟨r,hr,m2⟩ := List.mem_flatMap.mp z
  obtain ⟨j,hj⟩ := List.mem_iff_getElem?.mp hr
  by_cases e : j = i
  ·subst e; rw [List.getElem?_set_self sz] at hj; cases hj; cases m2
  ·rw [List.getElem?_set_ne (Ne.symm e)] at hj
   exact nodup_apart R.nd hi hj (Ne.symm e) m m2
 obtain ⟨P1,P2⟩ := Ru.pend ht fun a m=>⟨(own a m).1,(own a m).2.1,out a m⟩
 refine ⟨hs,ht,P1,fun G' H' ρ' R' e=>?_⟩
 obtain ⟨Q1,Q2,Q3,Q4⟩ := P2 _ _ _ _ R' e
 have ndS : S.Nodup := List.Nodup.sublist (adr_sub hi) R.nd
 have R2 := Q1.setAny (s := some v) (r := tr K v S x) (tr_slot ⟨rfl,Q2⟩ fun b m=>⟨(Q4 b m).1,(Q4 b m).2.1⟩) ndS (fun a m=>(Q4 a m).2.2) i
 rw [sset_id hs] at R2
 exact ⟨R2,Q3⟩
theorem RE.turn {F G H H' : Hp} {σ : L2.St} {i : Nat} {r r' : Sl} {s : Option V} (R : RE K F G H σ ρ) (hi : ρ[i]? = some r) (hσ : σ[i]? = some s) (h1 : ∀ b,b ∉ r.adr -> H' b = H b) (h2 : SlotOk K F G H' s r') (nd : r'.adr.Nodup) (sub : ∀ a ∈ r'.adr,a ∈ r.adr \/ a ∉ ownA ρ) : RE K F G H' σ (ρ.set i r') := by
 have own := fun a m=>R.sl.own (adr_mem (a := a) hi m)
 have tbo : ∀ t ∈ TabL.tabs,t.1 ∉ r.adr := fun t ht m=>by
  obtain ⟨_,_,u,h1,h2⟩ := own _ m
  exact R.wd.tb.ne h1 h2 t ht rfl
 refine ⟨⟨fun a u e=>?_,fun a u e=>?_,R.wd.fg,R.wd.ft,R.wd.tb.step (fun _ _ z=>z) fun t ht=>⟨h1 _ (tbo t ht),(R.wd.tb t ht).1,(R.wd.tb t ht).2.1⟩⟩,R.sl.but hσ h2 (fun j s2 r2 ne hs hr q=>q.step (Ex.refl G) fun a m=>⟨h1 a fun z=>nodup_apart R.nd hr hi ne m z,(R.sl.own (adr_mem hr m)).1⟩),?_⟩
 ·rw [h1 a fun m=>by rw [(own a m).2.1] at e; cases e]; exact R.wd.f a u e
 ·rw [h1 a fun m=>by rw [(own a m).1] at e; cases e]; exact R.wd.g a u e
 ·have z := ownA_set_own (r := r') (ρ := ρ.set i .un) i (List.Nodup.sublist (ownA_set0 rfl i) R.nd) nd fun a m=>?_
  ·rw [List.set_set] at z; exact z.1
  ·rcases sub a m with q | q
   ·exact ownA_out R.nd hi q
   ·exact fun w=>q ((ownA_set0 rfl i).subset w)
def EvP (K : PySem.W.Frag) (te : TE) (ρ : Env) (v : V) (p : List Nat) : Prop := ∀ F G H σ,RE K F G H σ ρ -> ∀ Q' : VK,(∀ v1 G' H',Ex G G' -> RE K F G' H' σ ρ -> pv H' v p = some v1 -> Q' v1 H') -> te σ H Q'
theorem ep_var {i : Nat} {v : V} {S : List Addr} {x : TD} (hi : ρ[i]? = some (tr K v S x)) : EvP K (tVar i) ρ v [] := fun F G H σ R Q' k=>by
 obtain ⟨s,hs,⟨rfl,ht⟩,_,own⟩ := R.sl.get hi
 exact ⟨v,hs,k v G H (Ex.refl G) R (by cases v <;> (unfold pv; rfl))⟩
theorem pv_snoc {H : Hp} (j : Nat) : ∀ (p : List Nat) (v : V),pv H v (p ++ [j]) = (pv H v p).bind fun w=>pv H w [j]
 | [],v=>by
  have : pv H v [] = some v := by cases v <;> (unfold pv; rfl)
  rw [this]; rfl
 | l :: p,v=>by
  cases v with
  | ref a =>
   show ((H a).bind fun o=>((kidsO o)[l]?).bind fun w=>pv H w (p ++ [j])) = ((H a).bind fun o=>((kidsO o)[l]?).bind fun w=>pv H w p).bind _
   cases H a with
   | none=>rfl
   | some o =>
    show ((kidsO o)[l]?).bind (fun w=>pv H w (p ++ [j])) = (((kidsO o)[l]?).bind fun w=>pv H w p).bind _
    cases (kidsO o)[l]? with
    | none=>rfl
    | some w=>exact pv_snoc j p w
  | _=>rfl
theorem pv_step {G H H' : Hp} : ∀ (p : List Nat) {v : V} {x x1 : TD} {S : List Addr},Tr K G H v x S -> x.at p = some x1 -> (∀ a ∈ S,H' a = H a) -> pv H' v p = pv H v p
 | [],v,x,x1,S,_,_,_=>by cases v <;> (unfold pv; rfl)
 | j :: p,v,x,x1,S,h,hx,k=>by
  cases h with
  | sh h=>unfold TD.at at hx; cases hx
  | tp h=>unfold TD.at at hx; cases hx
  | @nd a o nk vs xs S h1 h2 h3 =>
   unfold TD.at at hx
   cases hy : xs[j]? with
   | none=>rw [hy] at hx; cases hx
   | some y =>
    rw [hy] at hx
    obtain ⟨w,L,Sj,R,e1,e2,e3,_⟩ := h3.split hy
    show ((H' a).bind fun o=>((kidsO o)[j]?).bind fun w=>pv H' w p) = ((H a).bind fun o=>((kidsO o)[j]?).bind fun w=>pv H w p)
    rw [k a List.mem_cons_self,h1]
    show ((kidsO o)[j]?).bind (fun w=>pv H' w p) = ((kidsO o)[j]?).bind (fun w=>pv H w p)
    rw [h2.kids,e1]
    exact pv_step p e3 hx fun b m=>k b (List.mem_cons_of_mem _ (by rw [e2]; exact List.mem_append_left _ (List.mem_append_right _ m)))
def EvZ (K : PySem.W.Frag) (te : TE) (ρ : Env) (Q : TD -> Env -> Prop) : Prop := ∀ F G H σ,RE K F G H σ ρ -> ∀ Q' : VK,
 (∀ v x S ρ' G' H',Ex G G' -> RE K F G' H' σ ρ' -> Tr K G' H' v x S -> S.Nodup -> (∀ a ∈ S,G' a = none /\ F a = none /\ a ∉ ownA ρ') -> Q x ρ' -> Q' v H') -> te σ H Q'
def EvZs (K : PySem.W.Frag) (ts : TA) (ρ : Env) (Q : List TD -> Env -> Prop) : Prop := ∀ F G H σ,RE K F G H σ ρ -> ∀ Q' : List V -> Hp -> Prop,
 (∀ vs xs S ρ' G' H',Ex G G' -> RE K F G' H' σ ρ' -> Trs K G' H' vs xs S -> S.Nodup -> (∀ a ∈ S,G' a = none /\ F a = none /\ a ∉ ownA ρ') -> Q xs ρ' -> Q' vs H') -> ts σ H Q'
theorem z_sh {Q : TD -> Env -> Prop} (h : EvW K te ρ fun d ρ'=>Q (.sh d) ρ') : EvZ K te ρ Q := fun F G H σ R Q' k =>
 h F G H σ R Q' fun v d ρ' G' H' e R' hv q=>k v _ [] ρ' G' H' e R' (.sh hv) List.nodup_nil (fun a m=>by cases m) q
def flatT : D -> TD
 | .lst ds=>.nd .lst (ds.map .sh)
 | .dk ps=>.nd (.dk (ps.map (·.1))) ((ps.map (·.2)).map .sh)
 | .dt ps=>.nd (.dt (ps.map (·.1))) ((ps.map (·.2)).map .sh)
 | .ins C ps=>.nd (.ins C (ps.map (·.1))) ((ps.map (·.2)).map .sh)
 | d=>.sh d
def FlatOk : D -> Prop
 | .dk ps=>(ps.map (·.1)).Nodup
 | .dt ps=>(ps.map (·.1)).Nodup
 | .ins _ ps=>(ps.map (·.1)).Nodup
 | _=>True
theorem tr_of_own {G H : Hp} {p : Addr} {d : D} (o : OwnR K G (H p) d) (f : FlatOk d) : Tr K G H (.ref p) (flatT d) [p] := by
 cases d with
 | lst ds =>
  obtain ⟨vs,e,r⟩ := o
  exact .nd e rfl (Trs.leaves r)
 | dk ps =>
  obtain ⟨kvs,e,hk,r⟩ := o
  refine .nd (vs := kvs.map (·.2)) e ⟨?_,f,?_⟩ (Trs.leaves r)
  ·rw [<- hk,List.length_map,List.length_map]
  ·rw [<- hk,zip_un]
 | dt ps =>
  obtain ⟨kvs,e,hk,r⟩ := o
  refine .nd (vs := kvs.map (·.2)) e ⟨?_,f,?_⟩ (Trs.leaves r)
  ·rw [<- hk,List.length_map,List.length_map]
  ·rw [<- hk,zip_un]
 | ins C ps =>
  obtain ⟨dx,kvs,e,hk,r⟩ := o
  refine .nd (vs := kvs.map (·.2)) e ⟨?_,f,dx,?_⟩ (Trs.leaves r)
  ·rw [<- hk,List.length_map,List.length_map]
  ·rw [<- hk,zip_un]
 | _=>exact o.elim
theorem z_new {Q : TD -> Env -> Prop} (h : EvN K te ρ fun d ρ'=>FlatOk d /\ Q (flatT d) ρ') : EvZ K te ρ Q := fun F G H σ R Q' k =>
 h F G H σ R Q' fun p d ρ' G' H' e R' hG hF hO o q=>k (.ref p) _ [p] ρ' G' H' e R' (tr_of_own o q.1) (List.nodup_cons.mpr ⟨List.not_mem_nil,List.nodup_nil⟩) (fun a m=>by rw [List.mem_singleton.mp m]; exact ⟨hG,hF,hO⟩) q.2
theorem zs_nil {Q : List TD -> Env -> Prop} (q : Q [] ρ) : EvZs K tNil ρ Q := fun F G H σ R Q' k=>k [] [] [] ρ G H (Ex.refl G) R .nil List.nodup_nil (fun a m=>by cases m) q
theorem zs_cons {Q : List TD -> Env -> Prop} (h : EvZ K ta ρ fun x ρ1=>EvZs K ts ρ1 fun xs ρ2=>Q (x :: xs) ρ2) : EvZs K (tCons ta ts) ρ Q := fun F G H σ R Q' k =>
 h F G H σ R _ fun v x S ρ1 G1 H1 e1 R1 t1 nd1 fr1 q1=>by
  obtain ⟨P1,P2⟩ := R1.pend t1 fr1
  refine q1 _ G1 H1 σ P1 _ fun vs xs S2 ρ2 G2 H2 e2 R2 t2 nd2 fr2 q2=>?_
  obtain ⟨R3,t3,keep,fr3⟩ := P2 _ _ _ _ R2 e2
  have ap : ∀ a ∈ S,a ∉ S2 := fun a m z=>by
   obtain ⟨u,hu,_⟩ := t1.mem a m
   have := (fr2 a z).2.1
   rw [addF_in m,hu] at this; cases this
  refine k (v :: vs) (x :: xs) (S ++ S2) ρ2 G2 H2 (e1.trans e2) R3 (.cons t3 t2) (List.nodup_append.mpr ⟨nd1,nd2,fun a m b m2 z=>ap a m (z ▸ m2)⟩) (fun a m=>?_) q2
  rcases List.mem_append.mp m with m | m
  ·exact fr3 a m
  ·refine ⟨(fr2 a m).1,?_,(fr2 a m).2.2⟩
   have := (fr2 a m).2.1
   rw [addF_out fun z=>ap a z m] at this
   exact this
end
end DL
namespace DL
open PySem PySem.Spec PyProof.Rows L2 SrtK
variable [TabL]
section
variable {K : PySem.W.Frag} {te ta tb tc td ty tv tx tk : TE} {tt tu : TT} {ts : TA} {t u : TS} {ρ : Env} {E : EndD}
theorem RE.write {F G H : Hp} {σ : L2.St} {i : Nat} {v : V} {S : List Addr} {x : TD} {p : List Nat} {nk : NK} {xs : List TD} (R : RE K F G H σ ρ) (hi : ρ[i]? = some (tr K v S x)) (hx : x.at p = some (.nd nk xs)) :
  ∃ a o vs S1,pv H v p = some (.ref a) /\ H a = some o /\ NK.Ok K nk vs o /\ Trs K G H vs xs S1 /\ (∀ b ∈ S1,b ∈ ownA ρ) /\ S1.Nodup /\ ∀ (o' : HO) (nk' : NK) (vs' : List V) (xs' : List TD) (S1' : List Addr),NK.Ok K nk' vs' o' -> Trs K G H vs' xs' S1' -> S1'.Nodup -> (∀ b ∈ S1',b ∈ S1 \/ (G b = none /\ F b = none /\ b ∉ ownA ρ)) ->
   ∃ S',RE K F G (upd H a o') σ (ρ.set i (tr K v S' (x.upd p (.nd nk' xs')))) := by
 obtain ⟨s,hs,⟨rfl,ht⟩,_,own⟩ := R.sl.get hi
 obtain ⟨v1,T1,L,Rr,f1,f2,f3,f4⟩ := ht.focus p hx
 have ndS : S.Nodup := List.Nodup.sublist (adr_sub hi) R.nd
 have inO : ∀ b ∈ S,b ∈ ownA ρ := fun b m=>adr_mem hi m
 cases f3 with
 | @nd a o nk vs xs S1 h1 h2 h3 =>
  rw [f2] at ndS
  have nd1 := List.nodup_append.mp ndS
  have nd2 := List.nodup_append.mp nd1.1
  have nd3 := List.nodup_cons.mp nd2.2.1
  have memS : ∀ b,b ∈ L \/ b = a \/ b ∈ S1 \/ b ∈ Rr -> b ∈ S := fun b m=>by
   rw [f2]
   simp only [List.mem_append,List.mem_cons]
   rcases m with z | z | z | z
   ·exact .inl (.inl z)
   ·exact .inl (.inr (.inl z))
   ·exact .inl (.inr (.inr z))
   ·exact .inr z
  have aL : a ∉ L := fun m=>nd2.2.2 a m a List.mem_cons_self rfl
  have aR : a ∉ Rr := fun m=>nd1.2.2 a (List.mem_append_right _ List.mem_cons_self) a m rfl
  have sL : ∀ b ∈ S1,b ∉ L := fun b m z=>nd2.2.2 b z b (List.mem_cons_of_mem _ m) rfl
  have sR : ∀ b ∈ S1,b ∉ Rr := fun b m z=>nd1.2.2 b (List.mem_append_right _ (List.mem_cons_of_mem _ m)) b z rfl
  have LR : ∀ b ∈ L,b ∉ Rr := fun b m z=>nd1.2.2 b (List.mem_append_left _ m) b z rfl
  refine ⟨a,o,vs,S1,f1,h1,h2,h3,fun b m=>inO b (memS b (.inr (.inr (.inl m)))),nd3.2,fun o' nk' vs' xs' S1' ok t1 n1 sub=>?_⟩
  have a1 : a ∉ S1' := fun m=>by
   rcases sub a m with z | z
   ·exact nd3.1 z
   ·exact z.2.2 (inO a (memS a (.inr (.inl rfl))))
  have out : ∀ b ∈ S1',b ∉ L /\ b ∉ Rr := fun b m=>by
   rcases sub b m with z | z
   ·exact ⟨sL b z,sR b z⟩
   ·exact ⟨fun w=>z.2.2 (inO b (memS b (.inl w))),fun w=>z.2.2 (inO b (memS b (.inr (.inr (.inr w)))))⟩
  have tn : Tr K G (upd H a o') (.ref a) (.nd nk' xs') (a :: S1') := .nd upd_same ok (t1.step (Ex.refl G).rdx fun b m=>upd_ne fun z=>a1 (z ▸ m))
  have tf := f4 G (upd H a o') _ _ (Ex.refl G).rdx (fun b m=>upd_ne fun z=>by
   rcases List.mem_append.mp m with w | w
   ·exact aL (z ▸ w)
   ·exact aR (z ▸ w)) tn
  refine ⟨L ++ (a :: S1') ++ Rr,R.turn hi hs (fun b m=>upd_ne fun z=>m (memS b (.inr (.inl z)))) (tr_slot ⟨rfl,tf⟩ fun b m=>?_) ?_ fun b m=>?_⟩
  ·simp only [List.mem_append,List.mem_cons] at m
   rcases m with (z | z | z) | z
   ·exact ⟨(own b (memS b (.inl z))).1,(own b (memS b (.inl z))).2.1⟩
   ·exact ⟨(own b (memS b (.inr (.inl z)))).1,(own b (memS b (.inr (.inl z)))).2.1⟩
   ·rcases sub b z with w | w
    ·exact ⟨(own b (memS b (.inr (.inr (.inl w))))).1,(own b (memS b (.inr (.inr (.inl w))))).2.1⟩
    ·exact ⟨w.1,w.2.1⟩
   ·exact ⟨(own b (memS b (.inr (.inr (.inr z))))).1,(own b (memS b (.inr (.inr (.inr z))))).2.1⟩
  ·show (L ++ (a :: S1') ++ Rr).Nodup
   refine List.nodup_append.mpr ⟨List.nodup_append.mpr ⟨nd2.1,List.nodup_cons.mpr ⟨a1,n1⟩,fun b m c m2 z=>?_⟩,nd1.2.1,fun b m c m2 z=>?_⟩
   ·subst z
    rcases List.mem_cons.mp m2 with w | w
    ·exact aL (w ▸ m)
    ·exact (out b w).1 m
   ·subst z
    rcases List.mem_append.mp m with w | w
    ·exact LR b w m2
    ·rcases List.mem_cons.mp w with w | w
     ·exact aR (w ▸ m2)
     ·exact (out b w).2 m2
  ·simp only [tr_adr,List.mem_append,List.mem_cons] at m
   rcases m with (z | z | z) | z
   ·exact .inl (memS b (.inl z))
   ·exact .inl (memS b (.inr (.inl z)))
   ·rcases sub b z with w | w
    ·exact .inl (memS b (.inr (.inr (.inl w))))
    ·exact .inr w.2.2
   ·exact .inl (memS b (.inr (.inr (.inr z))))
def kpos {κ : Type} [DecidableEq κ] : List κ -> κ -> Nat
 | [],_=>0
 | x :: xs,k=>if x = k then 0 else kpos xs k + 1
theorem idx_at {κ : Type} [DecidableEq κ] : ∀ {ks : List κ} {k : κ} (_ : k ∈ ks),ks[kpos ks k]? = some k
 | x :: xs,k,m=>by
  by_cases e : x = k
  ·rw [show kpos (x :: xs) k = 0 from if_pos e,e]; rfl
  ·rw [show kpos (x :: xs) k = kpos xs k + 1 from if_neg e,List.getElem?_cons_succ]
   exact idx_at ((List.mem_cons.mp m).resolve_left fun z=>e z.symm)
end
end DL
namespace DL
open PySem PySem.Spec PyProof.Rows L2 SrtK
variable [TabL]
section
variable {K : PySem.W.Frag} {te ta tb tc td ty tv tx tk : TE} {tt tu : TT} {ts : TA} {t u : TS} {ρ : Env} {E : EndD}
def NK.kd : NK -> Nat
 | .lst=>0
 | .dk _=>1
 | .dt _=>2
 | .ins _ _=>3
theorem NK.Ok.kd {k : NK} {vs : List V} {o : HO} (h : NK.Ok K k vs o) : kindH o = k.kd := by
 cases k with
 | lst=>obtain rfl := h; rfl
 | dk ks=>obtain ⟨_,_,rfl⟩ := h; rfl
 | dt ks=>obtain ⟨_,_,rfl⟩ := h; rfl
 | ins C fs=>obtain ⟨_,_,dx,rfl⟩ := h; rfl
theorem RE.shareZ {F G H : Hp} {σ : L2.St} {i : Nat} {v : V} {S : List Addr} {x : TD} (R : RE K F G H σ ρ) (hi : ρ[i]? = some (tr K v S x)) : Ex G (addF G H S) /\ RE K F (addF G H S) H σ (ρ.set i (.sh x.d)) := by
 obtain ⟨s,hs,⟨rfl,ht⟩,_,own⟩ := R.sl.get hi
 have ex : Ex G (addF G H S) := fun a u e=>by
  by_cases m : a ∈ S
  ·rw [(own a m).1] at e; cases e
  ·rw [addF_out m]; exact e
 have tbo : ∀ t ∈ TabL.tabs,t.1 ∉ S := fun t ht m=>by
  obtain ⟨_,_,u,h1,h2⟩ := own _ m
  exact R.wd.tb.ne h1 h2 t ht rfl
 refine ⟨ex,⟨R.wd.f,fun a u e=>?_,fun a u e=>?_,R.wd.ft,R.wd.tb.step (fun c q z=>ex _ _ z) fun t ht=>⟨rfl,?_,(R.wd.tb t ht).2.1⟩⟩,R.sl.but hs ⟨v,rfl,ht.rep ex fun a m=>addF_in m⟩ (fun j s2 r2 ne hs2 hr q=>q.step ex fun a m=>⟨rfl,?_⟩),List.Nodup.sublist (ownA_set0 rfl i) R.nd⟩
 ·by_cases m : a ∈ S
  ·rw [addF_in m] at e; exact e
  ·rw [addF_out m] at e; exact R.wd.g a u e
 ·by_cases m : a ∈ S
  ·rw [(own a m).2.1] at e; cases e
  ·rw [addF_out m]; exact R.wd.fg a u e
 ·rw [addF_out (tbo t ht)]; exact (R.wd.tb t ht).1
 ·have z : a ∉ S := fun z=>nodup_apart R.nd hr hi ne m z
  rw [addF_out z]
  exact (R.sl.own (adr_mem hr m)).1
theorem ws_shareZ {i : Nat} {v : V} {S : List Addr} {x : TD} (hi : ρ[i]? = some (tr K v S x)) (h : WS K t (ρ.set i (.sh x.d)) E) : WS K t ρ E := fun F G H σ Dn R L=>by
 obtain ⟨ex,R1⟩ := R.shareZ hi
 exact h F _ H σ Dn R1 (L.mono ex)
theorem RE.setZ {F G H : Hp} {σ : L2.St} {v : V} {x : TD} {S : List Addr} (R : RE K F G H σ ρ) (t : Tr K G H v x S) (nd : S.Nodup) (fr : ∀ a ∈ S,G a = none /\ F a = none /\ a ∉ ownA ρ) (i : Nat) : RE K F G H (σ.set i (some v)) (ρ.set i (tr K v S x)) :=
 R.setAny (tr_slot ⟨rfl,t⟩ fun b m=>⟨(fr b m).1,(fr b m).2.1⟩) nd (fun a m=>(fr a m).2.2) i
theorem ws_parZ {i j : Nat} (h : EvZs K ts ρ fun xs ρ1=>∃ x y,xs = [x,y] /\ ∀ v S v' S',E.nx ((ρ1.set i (tr K v S x)).set j (tr K v' S' y))) : WS K (tPar i j ts) ρ E := fun F G H σ Dn R L =>
 h F G H σ R _ fun vs xs S ρ1 G1 H1 e1 R1 t nd fr q=>by
  obtain ⟨x,y,rfl,q⟩ := q
  cases t with
  | @cons v1 _ _ _ S1 S2 t1 t2 =>
   cases t2 with
   | @cons v2 _ _ _ S3 S4 t3 t4 =>
    cases t4
    rw [List.append_nil] at nd fr
    have n1 := List.nodup_append.mp nd
    have R2 := R1.setZ t1 n1.1 (fun a m=>fr a (List.mem_append_left _ m)) i
    have R3 := R2.setZ t3 n1.2.1 (fun a m=>⟨(fr a (List.mem_append_right _ m)).1,(fr a (List.mem_append_right _ m)).2.1,fun z=>?_⟩) j
    ·exact ⟨v1,v2,rfl,L.nx _ _ G1 H1 e1 R3 (q v1 S1 v2 S3)⟩
    ·have u := (ownA_set_own (r := tr K v1 S1 x) i R1.nd n1.1 fun a m=>(fr a (List.mem_append_left _ m)).2.2).2 a z
     rcases u with u | u
     ·exact n1.2.2 a u a m rfl
     ·exact (fr a (List.mem_append_right _ m)).2.2 u
end
end DL
namespace DL
open PySem PySem.Spec PyProof.Rows L2 SrtK
variable [TabL]
inductive Az where
 | sh (d : D) | tr (t : TD) | dr
inductive RZ where
 | sh (d : D) | nw (d : D) | tr (t : TD)
def Az.sl (K : PySem.W.Frag) : Az -> V -> List Addr -> Addr -> Sl
 | .sh d,_,_,_=>.sh d
 | .tr t,v,S,_=>DL.tr K v S t
 | .dr,_,_,a=>.drw a
abbrev TZp := List Az -> (RZ -> List Az -> Prop) -> (Str -> Str -> D -> Prop) -> Prop
end DL
set_option maxHeartbeats 1000000
namespace DL
open PySem PySem.Spec PyProof.Rows L2 SrtK LamX LamY
variable [TabL]
theorem FzD.mono {K : PySem.W.Frag} {G G' : Hp} {a : Addr} {od : Obj} {d : D} (h : FzD K G a od d) (e : Ex G G') : FzD K G' a od d := by
 cases d with
 | dk ps=>obtain ⟨kvs,h1,h2,h3⟩ := h; exact ⟨kvs,e _ _ h1,h2,h3.mono e⟩
 | dt ps=>obtain ⟨kvs,h1,h2,h3⟩ := h; exact ⟨kvs,e _ _ h1,h2,h3.mono e⟩
 | _=>exact h.elim
end DL
namespace DL
open PySem PySem.Spec PyProof.Rows L2 SrtK
variable [TabL]
section
variable {K : PySem.W.Frag} {te ta tb tc td ty tv tx tk : TE} {tt tu : TT} {ts : TA} {t u : TS} {ρ : Env} {E : EndD}
theorem ws_leafZ {i : Nat} {v : V} {S : List Addr} {d : D} (hi : ρ[i]? = some (tr K v S (.sh d))) (h : WS K t (ρ.set i (.sh d)) E) : WS K t ρ E := fun F G H σ Dn R L=>by
 obtain ⟨s,hs,⟨rfl,ht⟩,_,own⟩ := R.sl.get hi
 cases ht with
 | sh hv =>
  have := R.turn (r' := .sh d) (s := some v) hi hs (fun _ _=>rfl) ⟨v,rfl,hv⟩ List.nodup_nil fun a m=>by cases m
  exact h F G H σ Dn this L
end
end DL
set_option maxHeartbeats 2000000
set_option maxHeartbeats 1000000
namespace SrtG
open PySem PySem.Spec PyProof.Rows L2 LowX
open PySem.W (EachIs AllAlike Sortable dataLe)
noncomputable def outV (bs : List (V × PyData)) : List V := (bs.mergeSort (dataLe false fun b=>b.2)).map (·.1)
end SrtG
namespace DL
open PySem PySem.Spec PyProof.Rows L2 SrtK
variable [TabL]
section
variable {K : PySem.W.Frag} {te ta tb tc td ty tv tx tk : TE} {tt tu : TT} {ts : TA} {t u : TS} {ρ : Env} {E : EndD}
theorem pv_kid {H : Hp} {a : Addr} {o : HO} {v w : V} {vs : List V} {p : List Nat} {j : Nat} (f1 : pv H v p = some (.ref a)) (h1 : H a = some o) (hk : kidsO o = vs) (hw : vs[j]? = some w) : pv H v (p ++ [j]) = some w := by
 rw [pv_snoc,f1]
 show pv H (.ref a) [j] = _
 show ((H a).bind fun o=>((kidsO o)[j]?).bind fun w=>pv H w []) = _
 rw [h1]
 show ((kidsO o)[j]?).bind (fun w=>pv H w []) = _
 rw [hk,hw]
 show pv H w [] = _
 cases w <;> (unfold pv; rfl)
theorem ep_ix {i j : Nat} {n : Int} {v : V} {S : List Addr} {x : TD} {p : List Nat} {xs : List TD} (hi : ρ[i]? = some (tr K v S x)) (hp : EvP K td ρ v p) (hx : x.at p = some (.nd .lst xs)) (hj : ixN xs.length n = some j) (hb : EvW K tb (ρ.set i .un) fun y ρ'=>y = .int n /\ ρ' = ρ.set i .un) :
  EvP K (tOp (rIx K) td tb) ρ v (p ++ [j]) := fun F G H σ R Q' kk =>
 hp F G H σ R _ fun v1 G1 H1 e1 R1 hv1=>by
  obtain ⟨b1,b2,b3,b4⟩ := R1.by1 hi
  refine hb _ G1 H1 σ b3 _ fun w y ρ2 G2 H2 e2 R2 hw q=>?_
  obtain ⟨rfl,rfl⟩ := q
  obtain ⟨R3,keep⟩ := b4 _ _ _ R2 e2
  rw [set_set_id hi] at R3
  have t2 := b2.step e2.rdx keep
  obtain ⟨v2,S1,L,Rr,f1,f2,f3,_⟩ := t2.focus p hx
  have ev : v2 = v1 := by
   have z := pv_step p b2 hx keep
   rw [f1,hv1] at z
   exact Option.some.inj z
  subst ev
  cases f3 with
  | @nd a o nk vs xs S h1 h2 h3 =>
   have hk := h2.kids
   obtain rfl := h2
   have hl := h3.length
   have lt := (ixN_seq hj).2.1
   obtain ⟨w1,hw1⟩ : ∃ w1,vs[j]? = some w1 := ⟨vs[j]'(by rw [hl]; exact lt),List.getElem?_eq_getElem _⟩
   refine .inl ⟨a,vs,n,w1,rfl,rep_int hw,.inl (.inl h1),?_,kk w1 G2 H2 (e1.trans e2) R3 (pv_kid f1 h1 hk hw1)⟩
   unfold atI
   rw [hl,hj]; exact hw1
theorem ew_atZ {Q : D -> Env -> Prop} {i : Nat} {v : V} {S : List Addr} {x : TD} {p : List Nat} {d : D} (hi : ρ[i]? = some (tr K v S x)) (hp : EvP K te ρ v p) (hx : x.at p = some (.sh d)) (q : Q d ρ) : EvW K te ρ Q := fun F G H σ R Q' kk =>
 hp F G H σ R _ fun v1 G1 H1 e1 R1 hv1=>by
  obtain ⟨s,hs,⟨rfl,ht⟩,_,own⟩ := R1.sl.get hi
  obtain ⟨v2,S1,L,Rr,f1,f2,f3,_⟩ := ht.focus p hx
  have ev : v2 = v1 := by rw [f1] at hv1; exact Option.some.inj hv1
  subst ev
  cases f3 with
  | sh h=>exact kk v2 d ρ G1 H1 e1 R1 h q
theorem Trs.app {G H : Hp} : ∀ {vs : List V} {xs : List TD} {S : List Addr} {ws : List V} {ys : List TD} {S2 : List Addr},Trs K G H vs xs S -> Trs K G H ws ys S2 -> Trs K G H (vs ++ ws) (xs ++ ys) (S ++ S2)
 | _,_,_,_,_,_,.nil,t=>t
 | _,_,_,_,_,_,.cons h r,t=>by
  have := Trs.cons h (Trs.app r t)
  rw [<- List.append_assoc] at this
  exact this
end
end DL
namespace DL
open PySem PySem.Spec PyProof.Rows L2 SrtK
variable [TabL]
section
variable {K : PySem.W.Frag} {te td ty : TE} {ts : TA} {ρ : Env} {E : EndD}
theorem z_lst {Q : TD -> Env -> Prop} (h : EvZs K ts ρ fun xs ρ1=>xs.length <= 100000 /\ Q (.nd .lst xs) ρ1) : EvZ K (tLst ts) ρ Q := fun F G H σ R Q' k =>
 h F G H σ R _ fun vs xs S ρ1 G1 H1 e1 R1 t nd fr q=>by
  refine ⟨by rw [t.length]; exact big q.1,fun p hp=>?_⟩
  have ne : ∀ a ∈ S,a ≠ p := fun a m z=>by
   obtain ⟨u,hu,_⟩ := t.mem a m
   rw [z,hp] at hu; cases hu
  refine k (.ref p) (.nd .lst xs) (p :: S) ρ1 G1 _ e1 (R1.alone hp) (.nd upd_same (show NK.Ok K .lst vs _ from rfl) (t.step (Ex.refl _).rdx fun a m=>upd_ne (ne a m))) (List.nodup_cons.mpr ⟨fun m=>ne p m rfl,nd⟩) (fun a m=>?_) q.2
  rcases List.mem_cons.mp m with rfl | m
  ·exact ⟨R1.wd.g.none hp,R1.wd.f.none hp,ownA_fresh R1 hp⟩
  ·exact fr a m
theorem ws_lsetZ {i : Nat} (h : EvW K te ρ fun d ρ1=>∃ v S x p xs j,ρ1[i]? = some (tr K v S x) /\ EvP K td ρ1 v p /\ x.at p = some (.nd .lst xs) /\ EvW K ty (ρ1.set i .un) fun y ρ2=>ρ2 = ρ1.set i .un /\ ∃ n,y = .int n /\ ixN xs.length n = some j ∧
  ∀ S',E.nx (ρ1.set i (tr K v S' (x.upd p (.nd .lst (xs.set j (.sh d))))))) : WS K (tAsg te (gSub td ty rSetL)) ρ E := fun F G H σ Dn R L =>
 h F G H σ R _ fun vv d ρ1 G1 H1 e1 R1 hv q=>by
  obtain ⟨v,S,x,p,xs,j,hi,hp,hx,q⟩ := q
  refine hp _ G1 H1 σ R1 _ fun v1 G2 H2 e2 R2 hv1=>?_
  obtain ⟨b1,b2,b3,b4⟩ := R2.by1 hi
  refine q _ G2 H2 σ b3 _ fun w y ρ3 G3 H3 e3 R3 hw q2=>?_
  obtain ⟨rfl,n,rfl,hj,q2⟩ := q2
  obtain ⟨R4,keep⟩ := b4 _ _ _ R3 e3
  rw [set_set_id hi] at R4
  obtain ⟨a,o,vs,S1,w1,w2,w3,w4,w5,w6,w7⟩ := R4.write hi hx
  have ev : V.ref a = v1 := by
   have z := pv_step p b2 hx keep
   rw [w1,hv1] at z
   exact Option.some.inj z
  obtain rfl : o = .lst vs := w3
  have hlv : vs.length = xs.length := w4.length
  have lt := (ixN_seq hj).2.1
  obtain ⟨x0,hx0⟩ : ∃ x0,xs[j]? = some x0 := ⟨xs[j]'lt,List.getElem?_eq_getElem _⟩
  obtain ⟨v0,L0,Sj,Rr,s1,s2,s3,s4⟩ := w4.split hx0
  have nS := w6
  rw [s2] at nS
  have n1 := List.nodup_append.mp nS
  have n2 := List.nodup_append.mp n1.1
  have inS1 : ∀ b,b ∈ L0 \/ b ∈ Rr -> b ∈ S1 := fun b z=>by
   rw [s2]
   simp only [List.mem_append]
   rcases z with z | z
   ·exact .inl (.inl z)
   ·exact .inr z
  obtain ⟨S',R6⟩ := w7 (.lst (vs.set j vv)) .lst (vs.set j vv) (xs.set j (.sh d)) (L0 ++ [] ++ Rr) rfl (s4 G3 H3 vv (.sh d) [] (Ex.refl _).rdx (fun _ _=>rfl) (.sh (hv.mono (e2.trans e3)))) (by
   rw [List.append_nil]
   exact List.nodup_append.mpr ⟨n2.1,n1.2.1,fun b m1 c m2 z=>n1.2.2 b (List.mem_append_left _ m1) c m2 z⟩) fun b mb=>by
    rw [List.append_nil] at mb
    exact .inl (inS1 b (List.mem_append.mp mb))
  refine ⟨a,vs,n,j,ev.symm,rep_int hw,w2,by rw [hlv]; exact hj,?_⟩
  exact L.nx _ _ G3 _ ((e1.trans e2).trans e3) R6 (q2 S')
end
end DL
namespace DL
open PySem PySem.Spec PyProof.Rows L2 SrtK LowX
theorem spP_startN {K : PySem.W.Frag} {tabs : List (Addr × Str)} (nd : (tabs.map (·.1)).Nodup) {T : List D -> (D -> Prop) -> Prop} {H : Hp} {a : Addr} {ns : List Int} (hP : ∀ t ∈ tabs,H t.1 = some (.tbl #[])) (hS : SqL K H a (ns.map V.int)) (ht : T [.scr ns] fun d=>d = .bl true) :
  @spP ⟨tabs,nd⟩ K T [.ref a] H (fun v _=>v = .bl true) fun _ _ _=>False := by
 letI : TabL := ⟨tabs,nd⟩
 have ne : Rd H a (.lst (ns.map V.int)) -> a ∉ tabs.map (·.1) := fun h z=>by
  obtain ⟨t,ht,rfl⟩ := List.mem_map.mp z
  have hP := hP t ht
  rcases h with h | ⟨o,h⟩ <;> rw [hP] at h <;> cases h
 refine ⟨fun _=>none,fun b=>if b ∈ tabs.map (·.1) then none else H b,[.scr ns],_,⟨fun _ _ z=>(nomatch z),fun b o z=>?_,fun _ _ z=>(nomatch z),fun _ _ z=>(nomatch z),fun t ht=>?_⟩,.cons (.scr ?_) .nil,ht,fun v d G' H' e W r q=>by subst q; exact rep_bl r⟩
 ·have z : (if b ∈ tabs.map (·.1) then none else H b) = some o := z
  by_cases hb : b ∈ tabs.map (·.1)
  ·rw [if_pos hb] at z; cases z
  ·rw [if_neg hb] at z; exact z
 ·have ht : t ∈ tabs := ht
  refine ⟨if_pos (List.mem_map_of_mem ht),rfl,#[],hP t ht,?_,fun pos cv hc=>?_⟩
  ·simp [TriplesOk]
  ·simp [codeAmong] at hc
 ·rcases hS with hS | hS
  ·have nn := ne hS
   refine .inl ?_
   unfold Rd at hS ⊢
   show (if a ∈ tabs.map (·.1) then none else H a) = _ \/ ∃ o,(if a ∈ tabs.map (·.1) then none else H a) = _
   rw [if_neg nn]
   exact hS
  ·exact .inr hS
end DL
namespace K65
open PySem PySem.Spec PyProof.Rows L2 DL SrtK
def top (i : Nat) : Stmt := PySem.Challenge.pw_seatroads_k65_whole_tables_judged.main.body.getD i (.Pass ⟨0,0,0,0⟩)
def inCls (i j : Nat) : Stmt := match top i with
 | .ClassDef _ _ _ b _ _ _ _ _ _ _=>b.getD j (.Pass ⟨0,0,0,0⟩)
 | _=>.Pass ⟨0,0,0,0⟩
abbrev s__wall : Stmt := (top 0)
abbrev s_is_list : Stmt := (top 10)
abbrev s_is_name : Stmt := (top 11)
abbrev s_is_whole : Stmt := (top 12)
abbrev s_are_unlike : Stmt := (top 13)
abbrev s_as_tuples : Stmt := (top 14)
abbrev s_are_sorts : Stmt := (top 18)
abbrev s_are_counts : Stmt := (top 19)
abbrev s_all_counts : Stmt := (top 20)
abbrev s_is_row : Stmt := (top 21)
abbrev s_are_rows : Stmt := (top 22)
abbrev s_is_comer : Stmt := (top 23)
abbrev s_are_comers : Stmt := (top 24)
abbrev s_is_book : Stmt := (top 25)
abbrev s_added : Stmt := (top 26)
abbrev s_less : Stmt := (top 27)
abbrev s_Table___init__ : Stmt := (inCls 28 0)
abbrev s_Table_comers : Stmt := (inCls 28 1)
abbrev s_Table_row : Stmt := (inCls 28 2)
abbrev s_Table_check_book : Stmt := (inCls 28 3)
abbrev s_Table_after : Stmt := (inCls 28 4)
abbrev s_Table_after_all : Stmt := (inCls 28 5)
abbrev s_Table___eq__ : Stmt := (inCls 28 6)
abbrev s_apart : Stmt := (top 29)
abbrev s_one_of : Stmt := (top 30)
abbrev s_none_of : Stmt := (top 31)
abbrev s_Fault___init__ : Stmt := (inCls 33 0)
abbrev s_higher_book : Stmt := (top 34)
abbrev s_is_near : Stmt := (top 35)
abbrev s_cases_of : Stmt := (top 36)
abbrev s_judged : Stmt := (top 37)
abbrev s__law_stream : Stmt := (top 39)
abbrev s__law_draw : Stmt := (top 40)
abbrev s__law_pick : Stmt := (top 41)
abbrev s__law_tuples : Stmt := (top 42)
abbrev s__law_sides : Stmt := (top 43)
abbrev s__law_one : Stmt := (top 44)
abbrev s__law_listed : Stmt := (top 45)
abbrev s__law_mix : Stmt := (top 46)
abbrev s__law_drawn : Stmt := (top 47)
abbrev s__law_bent : Stmt := (top 48)
abbrev s__law_made : Stmt := (top 49)
abbrev s__law_after : Stmt := (top 50)
abbrev s__law_higher : Stmt := (top 51)
abbrev s__law_tokens : Stmt := (top 52)
abbrev s__law_is_near : Stmt := (top 53)
abbrev s__law_parts : Stmt := (top 54)
abbrev s__law_fewest : Stmt := (top 55)
abbrev s__law_never_farther : Stmt := (top 56)
abbrev s_law : Stmt := (top 57)
structure TX (P : Program) (K : PySem.W.Frag) (mg : Str -> Option Value) : Prop where
 n_ValueError : mg "ValueError" = none
 n_abs : mg "abs" = none
 n_all : mg "all" = none
 n_any : mg "any" = none
 n_bool : mg "bool" = none
 n_dict : mg "dict" = none
 n_enumerate : mg "enumerate" = none
 n_int : mg "int" = none
 n_isinstance : mg "isinstance" = none
 n_len : mg "len" = none
 n_list : mg "list" = none
 n_min : mg "min" = none
 n_range : mg "range" = none
 n_sorted : mg "sorted" = none
 n_str : mg "str" = none
 n_sum : mg "sum" = none
 n_super : mg "super" = none
 n_tuple : mg "tuple" = none
 n_zip : mg "zip" = none
 g__wall : mg "_wall" = some (.ref (He.ga K "_wall"))
 g_is_list : mg "is_list" = some (.ref (He.ga K "is_list"))
 g_is_name : mg "is_name" = some (.ref (He.ga K "is_name"))
 g_is_whole : mg "is_whole" = some (.ref (He.ga K "is_whole"))
 g_are_unlike : mg "are_unlike" = some (.ref (He.ga K "are_unlike"))
 g_as_tuples : mg "as_tuples" = some (.ref (He.ga K "as_tuples"))
 g_are_sorts : mg "are_sorts" = some (.ref (He.ga K "are_sorts"))
 g_are_counts : mg "are_counts" = some (.ref (He.ga K "are_counts"))
 g_all_counts : mg "all_counts" = some (.ref (He.ga K "all_counts"))
 g_is_row : mg "is_row" = some (.ref (He.ga K "is_row"))
 g_are_rows : mg "are_rows" = some (.ref (He.ga K "are_rows"))
 g_is_comer : mg "is_comer" = some (.ref (He.ga K "is_comer"))
 g_are_comers : mg "are_comers" = some (.ref (He.ga K "are_comers"))
 g_is_book : mg "is_book" = some (.ref (He.ga K "is_book"))
 g_added : mg "added" = some (.ref (He.ga K "added"))
 g_less : mg "less" = some (.ref (He.ga K "less"))
 g_apart : mg "apart" = some (.ref (He.ga K "apart"))
 g_one_of : mg "one_of" = some (.ref (He.ga K "one_of"))
 g_none_of : mg "none_of" = some (.ref (He.ga K "none_of"))
 g_higher_book : mg "higher_book" = some (.ref (He.ga K "higher_book"))
 g_is_near : mg "is_near" = some (.ref (He.ga K "is_near"))
 g_cases_of : mg "cases_of" = some (.ref (He.ga K "cases_of"))
 g_judged : mg "judged" = some (.ref (He.ga K "judged"))
 g__law_stream : mg "_law_stream" = some (.ref (He.ga K "_law_stream"))
 g__law_draw : mg "_law_draw" = some (.ref (He.ga K "_law_draw"))
 g__law_pick : mg "_law_pick" = some (.ref (He.ga K "_law_pick"))
 g__law_tuples : mg "_law_tuples" = some (.ref (He.ga K "_law_tuples"))
 g__law_sides : mg "_law_sides" = some (.ref (He.ga K "_law_sides"))
 g__law_one : mg "_law_one" = some (.ref (He.ga K "_law_one"))
 g__law_listed : mg "_law_listed" = some (.ref (He.ga K "_law_listed"))
 g__law_mix : mg "_law_mix" = some (.ref (He.ga K "_law_mix"))
 g__law_drawn : mg "_law_drawn" = some (.ref (He.ga K "_law_drawn"))
 g__law_bent : mg "_law_bent" = some (.ref (He.ga K "_law_bent"))
 g__law_made : mg "_law_made" = some (.ref (He.ga K "_law_made"))
 g__law_after : mg "_law_after" = some (.ref (He.ga K "_law_after"))
 g__law_higher : mg "_law_higher" = some (.ref (He.ga K "_law_higher"))
 g__law_tokens : mg "_law_tokens" = some (.ref (He.ga K "_law_tokens"))
 g__law_is_near : mg "_law_is_near" = some (.ref (He.ga K "_law_is_near"))
 g__law_parts : mg "_law_parts" = some (.ref (He.ga K "_law_parts"))
 g__law_fewest : mg "_law_fewest" = some (.ref (He.ga K "_law_fewest"))
 g__law_never_farther : mg "_law_never_farther" = some (.ref (He.ga K "_law_never_farther"))
 g_law : mg "law" = some (.ref (He.ga K "law"))
 g_OfficeError : mg "OfficeError" = some (.ref (He.ga K "OfficeError"))
 g_BadTable : mg "BadTable" = some (.ref (He.ga K "BadTable"))
 g_BadComer : mg "BadComer" = some (.ref (He.ga K "BadComer"))
 g_BadCounts : mg "BadCounts" = some (.ref (He.ga K "BadCounts"))
 g_BadBook : mg "BadBook" = some (.ref (He.ga K "BadBook"))
 g_Table : mg "Table" = some (.ref (He.ga K "Table"))
 g_Fault : mg "Fault" = some (.ref (He.ga K "Fault"))
 S_BadTable : EXS.SupC K P (He.ga K "BadTable") (He.ma K (He.ga K "BadTable") "__init__") "part" "part"
 xf_BadTable : XfC K (He.ga K "BadTable")
 xm_BadTable : PySem.W.exmOne K (.ref (He.ga K "BadTable")) (.ref (He.ga K "BadTable")) = some true
 xn_BadTable : PySem.W.findIn K (.ref (He.ga K "BadTable")) "part" = some none
 S_BadComer : EXS.SupC K P (He.ga K "BadComer") (He.ma K (He.ga K "BadComer") "__init__") "comer" "comer"
 xf_BadComer : XfC K (He.ga K "BadComer")
 xm_BadComer : PySem.W.exmOne K (.ref (He.ga K "BadComer")) (.ref (He.ga K "BadComer")) = some true
 xn_BadComer : PySem.W.findIn K (.ref (He.ga K "BadComer")) "comer" = some none
 S_BadCounts : EXS.SupC K P (He.ga K "BadCounts") (He.ma K (He.ga K "BadCounts") "__init__") "counts" "counts"
 xf_BadCounts : XfC K (He.ga K "BadCounts")
 xm_BadCounts : PySem.W.exmOne K (.ref (He.ga K "BadCounts")) (.ref (He.ga K "BadCounts")) = some true
 xn_BadCounts : PySem.W.findIn K (.ref (He.ga K "BadCounts")) "counts" = some none
 S_BadBook : EXS.SupC K P (He.ga K "BadBook") (He.ma K (He.ga K "BadBook") "__init__") "book" "book"
 xf_BadBook : XfC K (He.ga K "BadBook")
 xm_BadBook : PySem.W.exmOne K (.ref (He.ga K "BadBook")) (.ref (He.ga K "BadBook")) = some true
 xn_BadBook : PySem.W.findIn K (.ref (He.ga K "BadBook")) "book" = some none
 c_SIGNS : ∃ t,mg "SIGNS" = some (.str "abcdefghijklmnopqrstuvwxyz0123456789" t)
 c_LONGEST : ∃ t,mg "LONGEST" = some (.int 8 t)
 c_SIDES : mg "SIDES" = some (.ref (He.ga K "SIDES"))
 v_SIDES : ∀ H : Hp,SqT K H (He.ga K "SIDES") [.str "person",.str "place"]
 c_DEEPEST : ∃ t,mg "DEEPEST" = some (.int 3 t)
 F__wall : ∃ fd,FunD K "_wall" "_wall" (defArgs s__wall) (defBody s__wall) (defScope s__wall) [] [] (He.ga K "_wall") fd
 F_is_list : ∃ fd,FunD K "is_list" "is_list" (defArgs s_is_list) (defBody s_is_list) (defScope s_is_list) [] [] (He.ga K "is_list") fd
 F_is_name : ∃ fd,FunD K "is_name" "is_name" (defArgs s_is_name) (defBody s_is_name) (defScope s_is_name) [] [] (He.ga K "is_name") fd
 F_is_whole : ∃ fd,FunD K "is_whole" "is_whole" (defArgs s_is_whole) (defBody s_is_whole) (defScope s_is_whole) [] [] (He.ga K "is_whole") fd
 F_are_unlike : ∃ fd,FunD K "are_unlike" "are_unlike" (defArgs s_are_unlike) (defBody s_are_unlike) (defScope s_are_unlike) [] [] (He.ga K "are_unlike") fd
 F_as_tuples : ∃ fd,FunD K "as_tuples" "as_tuples" (defArgs s_as_tuples) (defBody s_as_tuples) (defScope s_as_tuples) [] [] (He.ga K "as_tuples") fd
 F_are_sorts : ∃ fd,FunD K "are_sorts" "are_sorts" (defArgs s_are_sorts) (defBody s_are_sorts) (defScope s_are_sorts) [] [] (He.ga K "are_sorts") fd
 F_are_counts : ∃ fd,FunD K "are_counts" "are_counts" (defArgs s_are_counts) (defBody s_are_counts) (defScope s_are_counts) [] [] (He.ga K "are_counts") fd
 F_all_counts : ∃ fd,FunD K "all_counts" "all_counts" (defArgs s_all_counts) (defBody s_all_counts) (defScope s_all_counts) [] [] (He.ga K "all_counts") fd
 F_is_row : ∃ fd,FunD K "is_row" "is_row" (defArgs s_is_row) (defBody s_is_row) (defScope s_is_row) [] [] (He.ga K "is_row") fd
 F_are_rows : ∃ fd,FunD K "are_rows" "are_rows" (defArgs s_are_rows) (defBody s_are_rows) (defScope s_are_rows) [] [] (He.ga K "are_rows") fd
 F_is_comer : ∃ fd,FunD K "is_comer" "is_comer" (defArgs s_is_comer) (defBody s_is_comer) (defScope s_is_comer) [] [] (He.ga K "is_comer") fd
 F_are_comers : ∃ fd,FunD K "are_comers" "are_comers" (defArgs s_are_comers) (defBody s_are_comers) (defScope s_are_comers) [] [] (He.ga K "are_comers") fd
 F_is_book : ∃ fd,FunD K "is_book" "is_book" (defArgs s_is_book) (defBody s_is_book) (defScope s_is_book) [] [] (He.ga K "is_book") fd
 F_added : ∃ fd,FunD K "added" "added" (defArgs s_added) (defBody s_added) (defScope s_added) [] [] (He.ga K "added") fd
 F_less : ∃ fd,FunD K "less" "less" (defArgs s_less) (defBody s_less) (defScope s_less) [] [] (He.ga K "less") fd
 F_apart : ∃ fd,FunD K "apart" "apart" (defArgs s_apart) (defBody s_apart) (defScope s_apart) [] [] (He.ga K "apart") fd
 F_one_of : ∃ fd,FunD K "one_of" "one_of" (defArgs s_one_of) (defBody s_one_of) (defScope s_one_of) [] [] (He.ga K "one_of") fd
 F_none_of : ∃ fd,FunD K "none_of" "none_of" (defArgs s_none_of) (defBody s_none_of) (defScope s_none_of) [] [] (He.ga K "none_of") fd
 F_higher_book : ∃ fd,FunD K "higher_book" "higher_book" (defArgs s_higher_book) (defBody s_higher_book) (defScope s_higher_book) [] [] (He.ga K "higher_book") fd
 F_is_near : ∃ fd,FunD K "is_near" "is_near" (defArgs s_is_near) (defBody s_is_near) (defScope s_is_near) [] [] (He.ga K "is_near") fd
 F_cases_of : ∃ fd,FunD K "cases_of" "cases_of" (defArgs s_cases_of) (defBody s_cases_of) (defScope s_cases_of) [] [] (He.ga K "cases_of") fd
 F_judged : ∃ fd,FunD K "judged" "judged" (defArgs s_judged) (defBody s_judged) (defScope s_judged) [] [] (He.ga K "judged") fd
 F__law_stream : ∃ fd,FunD K "_law_stream" "_law_stream" (defArgs s__law_stream) (defBody s__law_stream) (defScope s__law_stream) [] [] (He.ga K "_law_stream") fd
 F__law_draw : ∃ fd,FunD K "_law_draw" "_law_draw" (defArgs s__law_draw) (defBody s__law_draw) (defScope s__law_draw) [] [] (He.ga K "_law_draw") fd
 F__law_pick : ∃ fd,FunD K "_law_pick" "_law_pick" (defArgs s__law_pick) (defBody s__law_pick) (defScope s__law_pick) [] [] (He.ga K "_law_pick") fd
 F__law_tuples : ∃ fd,FunD K "_law_tuples" "_law_tuples" (defArgs s__law_tuples) (defBody s__law_tuples) (defScope s__law_tuples) [] [] (He.ga K "_law_tuples") fd
 F__law_sides : ∃ fd,FunD K "_law_sides" "_law_sides" (defArgs s__law_sides) (defBody s__law_sides) (defScope s__law_sides) [] [] (He.ga K "_law_sides") fd
 F__law_one : ∃ fd,FunD K "_law_one" "_law_one" (defArgs s__law_one) (defBody s__law_one) (defScope s__law_one) [] [] (He.ga K "_law_one") fd
 F__law_listed : ∃ fd,FunD K "_law_listed" "_law_listed" (defArgs s__law_listed) (defBody s__law_listed) (defScope s__law_listed) [] [] (He.ga K "_law_listed") fd
 F__law_mix : ∃ fd,FunD K "_law_mix" "_law_mix" (defArgs s__law_mix) (defBody s__law_mix) (defScope s__law_mix) [] [] (He.ga K "_law_mix") fd
 F__law_drawn : ∃ fd,FunD K "_law_drawn" "_law_drawn" (defArgs s__law_drawn) (defBody s__law_drawn) (defScope s__law_drawn) [] [] (He.ga K "_law_drawn") fd
 F__law_bent : ∃ fd,FunD K "_law_bent" "_law_bent" (defArgs s__law_bent) (defBody s__law_bent) (defScope s__law_bent) [] [] (He.ga K "_law_bent") fd
 F__law_made : ∃ fd,FunD K "_law_made" "_law_made" (defArgs s__law_made) (defBody s__law_made) (defScope s__law_made) [] [] (He.ga K "_law_made") fd
 F__law_after : ∃ fd,FunD K "_law_after" "_law_after" (defArgs s__law_after) (defBody s__law_after) (defScope s__law_after) [] [] (He.ga K "_law_after") fd
 F__law_higher : ∃ fd,FunD K "_law_higher" "_law_higher" (defArgs s__law_higher) (defBody s__law_higher) (defScope s__law_higher) [] [] (He.ga K "_law_higher") fd
 F__law_tokens : ∃ fd,FunD K "_law_tokens" "_law_tokens" (defArgs s__law_tokens) (defBody s__law_tokens) (defScope s__law_tokens) [] [] (He.ga K "_law_tokens") fd
 F__law_is_near : ∃ fd,FunD K "_law_is_near" "_law_is_near" (defArgs s__law_is_near) (defBody s__law_is_near) (defScope s__law_is_near) [] [] (He.ga K "_law_is_near") fd
 F__law_parts : ∃ fd,FunD K "_law_parts" "_law_parts" (defArgs s__law_parts) (defBody s__law_parts) (defScope s__law_parts) [] [] (He.ga K "_law_parts") fd
 F__law_fewest : ∃ fd,FunD K "_law_fewest" "_law_fewest" (defArgs s__law_fewest) (defBody s__law_fewest) (defScope s__law_fewest) [] [] (He.ga K "_law_fewest") fd
 F__law_never_farther : ∃ fd,FunD K "_law_never_farther" "_law_never_farther" (defArgs s__law_never_farther) (defBody s__law_never_farther) (defScope s__law_never_farther) [] [] (He.ga K "_law_never_farther") fd
 F_law : ∃ fd,FunD K "law" "law" (defArgs s_law) (defBody s_law) (defScope s_law) [] [] (He.ga K "law") fd
 cl_Table : Cls K (He.ga K "Table")
 na_Table_by_comer : NoAttr K (He.ga K "Table") "by_comer"
 na_Table_depth : NoAttr K (He.ga K "Table") "depth"
 na_Table_frees : NoAttr K (He.ga K "Table") "frees"
 na_Table_waits : NoAttr K (He.ga K "Table") "waits"
 F_Table___init__ : ∃ fd,FunD K "__init__" "Table.__init__" (defArgs s_Table___init__) (defBody s_Table___init__) (defScope s_Table___init__) [] [] (He.ma K (He.ga K "Table") "__init__") fd
 mk_Table : Mk K (He.ga K "Table") (He.ma K (He.ga K "Table") "__init__")
 F_Table_comers : ∃ fd,FunD K "comers" "Table.comers" (defArgs s_Table_comers) (defBody s_Table_comers) (defScope s_Table_comers) [] [] (He.ma K (He.ga K "Table") "comers") fd
 me_Table_comers : Meth K (He.ga K "Table") "comers" (He.ma K (He.ga K "Table") "comers")
 F_Table_row : ∃ fd,FunD K "row" "Table.row" (defArgs s_Table_row) (defBody s_Table_row) (defScope s_Table_row) [] [] (He.ma K (He.ga K "Table") "row") fd
 me_Table_row : Meth K (He.ga K "Table") "row" (He.ma K (He.ga K "Table") "row")
 F_Table_check_book : ∃ fd,FunD K "check_book" "Table.check_book" (defArgs s_Table_check_book) (defBody s_Table_check_book) (defScope s_Table_check_book) [] [] (He.ma K (He.ga K "Table") "check_book") fd
 me_Table_check_book : Meth K (He.ga K "Table") "check_book" (He.ma K (He.ga K "Table") "check_book")
 F_Table_after : ∃ fd,FunD K "after" "Table.after" (defArgs s_Table_after) (defBody s_Table_after) (defScope s_Table_after) [] [] (He.ma K (He.ga K "Table") "after") fd
 me_Table_after : Meth K (He.ga K "Table") "after" (He.ma K (He.ga K "Table") "after")
 F_Table_after_all : ∃ fd,FunD K "after_all" "Table.after_all" (defArgs s_Table_after_all) (defBody s_Table_after_all) (defScope s_Table_after_all) [] [] (He.ma K (He.ga K "Table") "after_all") fd
 me_Table_after_all : Meth K (He.ga K "Table") "after_all" (He.ma K (He.ga K "Table") "after_all")
 F_Table___eq__ : ∃ fd,FunD K "__eq__" "Table.__eq__" (defArgs s_Table___eq__) (defBody s_Table___eq__) (defScope s_Table___eq__) [] [] (He.ma K (He.ga K "Table") "__eq__") fd
 cl_Fault : Cls K (He.ga K "Fault")
 na_Fault_book : NoAttr K (He.ga K "Fault") "book"
 na_Fault_comer : NoAttr K (He.ga K "Fault") "comer"
 na_Fault_token : NoAttr K (He.ga K "Fault") "token"
 F_Fault___init__ : ∃ fd,FunD K "__init__" "Fault.__init__" (defArgs s_Fault___init__) (defBody s_Fault___init__) (defScope s_Fault___init__) [] [] (He.ma K (He.ga K "Fault") "__init__") fd
 mk_Fault : Mk K (He.ga K "Fault") (He.ma K (He.ga K "Fault") "__init__")
variable [TabL]
inductive Ok : D -> Prop
 | non : Ok .non
 | bl (b : Bool) : Ok (.bl b)
 | int (i : Int) : Ok (.int i)
 | str {x : Str} : x.length <= 1000 -> Ok (.str x)
 | lst {xs : List D} : xs.length <= 1000 -> (∀ x ∈ xs,Ok x) -> Ok (.lst xs)
 | tup {xs : List D} : xs.length <= 1000 -> (∀ x ∈ xs,Ok x) -> Ok (.tup xs)
 | dk {kvs : List (Key × D)} : kvs.length <= 1000 -> Ok (.dk kvs)
theorem Ok.plain {d : D} (h : Ok d) : d.plain = true := by cases h <;> rfl
theorem Ok.seq {d : D} {xs : List D} (h : Ok d) (e : d.seq = some xs) : xs.length <= 1000 /\ ∀ x ∈ xs,Ok x := by
 cases h with
 | lst a b=>cases e; exact ⟨a,b⟩
 | tup a b=>cases e; exact ⟨a,b⟩
 | _=>cases e
theorem Ok.mem {d : D} {xs : List D} (h : Ok d) (e : d.seq = some xs) {i : Nat} {x : D} (hx : xs[i]? = some x) : Ok x := (h.seq e).2 x (List.mem_of_getElem? hx)
theorem ite_b {b : Bool} {A B : Prop} (h1 : b = true -> A) (h2 : b = false -> B) : if b = true then A else B := by
 cases b with
 | true=>exact h1 rfl
 | false=>exact h2 rfl
theorem mem2 {P : D -> Prop} {x y : D} (hx : P x) (hy : P y) : ∀ d ∈ [x,y],P d := fun d hd=>by
 simp only [List.mem_cons,List.not_mem_nil,or_false] at hd
 rcases hd with rfl | rfl
 ·exact hx
 ·exact hy
theorem memc {P : D -> Prop} {x : D} {xs : List D} (hx : P x) (hs : ∀ d ∈ xs,P d) : ∀ d ∈ x :: xs,P d := fun d hd=>by
 rcases List.mem_cons.mp hd with rfl | z
 ·exact hx
 ·exact hs d z
theorem memn {P : D -> Prop} : ∀ d ∈ ([] : List D),P d := fun d hd=>(nomatch hd)
def isListD (d : D) : Bool := tyIs d.ty "list" || tyIs d.ty "tuple"
theorem seq_isList {d : D} (h : d.seq = none) (o : Ok d) : isListD d = false := by
 cases o <;> first | rfl | cases h
theorem seq_isList' {d : D} {xs : List D} (h : d.seq = some xs) : isListD d = true := by
 cases d <;> first | rfl | cases h
def signs : Str := "abcdefghijklmnopqrstuvwxyz0123456789"
def isNameS (x : Str) : Bool := decide ((1 : Int) <= x.length) && (decide ((x.length : Int) <= 8) && x.cps.toList.all fun c=>decide (c ∈ signs.cps.toList))
def isNameD : D -> Bool
 | .str x=>isNameS x
 | _=>false
def isWholeD : D -> Bool
 | .int _=>true
 | _=>false
def T1 (f : D -> Bool) : List D -> (D -> Prop) -> Prop := fun ds Q=>∃ d,ds = [d] /\ Ok d /\ Q (.bl (f d))
def toStr : D -> Str
 | .str x=>x
 | _=>Str.empty
theorem cut_to (ds : List D) (i : Nat) : cutDD ds none (some (i : Int)) = ds.take i := by
 unfold cutDD
 rw [HT.sIx_none,HT.sIx_nat,List.drop_zero,Nat.sub_zero]
 rw [List.take_eq_take_iff]
 omega
theorem nodup_take : ∀ (xs : List Str) (pre : List Str),((List.range xs.length).all fun i=>match xs[i]? with
  | some x=>!decide (x ∈ pre ++ xs.take i)
  | none=>true) = decide (xs.Nodup /\ ∀ x ∈ xs,x ∉ pre)
 | [],pre=>by simp
 | x :: xs,pre=>by
  rw [List.length_cons,List.range_succ_eq_map,List.all_cons,List.all_map]
  have ih := nodup_take xs (pre ++ [x])
  have e : (List.range xs.length).all ((fun i=>match (x :: xs)[i]? with
    | some y=>!decide (y ∈ pre ++ (x :: xs).take i)
    | none=>true) ∘ Nat.succ) = (List.range xs.length).all fun i=>match xs[i]? with
    | some y=>!decide (y ∈ (pre ++ [x]) ++ xs.take i)
    | none=>true := by
   congr 1
   funext i
   simp only [Function.comp,List.getElem?_cons_succ,List.take_succ_cons,List.append_assoc,List.singleton_append]
   cases xs[i]? <;> rfl
  rw [e,ih]
  simp only [List.getElem?_cons_zero,List.take_zero,List.append_nil,List.nodup_cons,List.mem_cons,List.mem_append,List.not_mem_nil,or_false,forall_eq_or_imp]
  rw [Bool.eq_iff_iff]
  simp only [Bool.and_eq_true,Bool.not_eq_true',decide_eq_false_iff_not,decide_eq_true_eq,not_or]
  constructor
  ·rintro ⟨h1,h2,h3⟩
   exact ⟨⟨fun m=>(h3 x m).2 rfl,h2⟩,h1,fun y m=>(h3 y m).1⟩
  ·rintro ⟨⟨h1,h2⟩,h3,h4⟩
   exact ⟨h3,h2,fun y m=>⟨h4 y m,fun z=>h1 (z ▸ m)⟩⟩
section
variable {P : Program} {w : World} {K : PySem.W.Frag} {mg : Str -> Option Value} {base : Heap}
def T_is_list : List D -> (D -> Prop) -> Prop := fun ds Q=>∃ d,ds = [d] /\ d.plain = true /\ Q (.bl (isListD d))
abbrev N_is_list : List Str := ["thing"]
theorem S_is_list : FnScope N_is_list ["thing"] (defScope s_is_list) := ⟨rfl,rfl,rfl,by decide +kernel,rfl,by decide +kernel,by decide +kernel⟩
theorem ok_is_list (T : TX P K mg) : FnB P w K mg base 1 "is_list" ["thing"] (spP K T_is_list) := by
 obtain ⟨fd,F⟩ := T.F_is_list
 refine fn_P (k := 0) F T.g_is_list (fun _ _ _ _ _ _ us hl=>match us,hl with | [_],_=>rfl) S_is_list (fun ds Qd h=>by first | (obtain ⟨rfl,_⟩ := h; rfl) | (obtain ⟨_,rfl,_⟩ := h; rfl) | (obtain ⟨_,_,rfl,_⟩ := h; rfl) | (obtain ⟨_,_,_,rfl,_⟩ := h; rfl) | (obtain ⟨_,_,_,_,rfl,_⟩ := h; rfl) | (obtain ⟨_,_,_,_,_,rfl,_⟩ := h; rfl) | (obtain ⟨_,_,_,_,_,_,rfl,_⟩ := h; rfl) | (obtain ⟨_,_,_,_,_,_,_,rfl,_⟩ := h; rfl) | (obtain ⟨_,_,_,_,_,_,_,_,rfl,_⟩ := h; rfl) | (obtain ⟨_,_,_,_,_,_,_,_,_,rfl,_⟩ := h; rfl) | (obtain ⟨_,_,_,_,_,_,_,_,_,_,rfl,_⟩ := h; rfl) | (obtain ⟨_,_,_,_,_,_,_,_,_,_,_,rfl,_⟩ := h; rfl)) fun cdv A outer s H E hr=>⟨_,(pss_one (ps_ret (pe_callB (kisiT (K := K) rfl) (by rfl) T.n_isinstance (by decide +kernel) (pa_cons (pv 0) (pa_cons (pe_tup (pa_cons (pe_bltn (v := .ty "list") (by rfl) T.n_list (by decide +kernel) rfl) (pa_cons (pe_bltn (v := .ty "tuple") (by rfl) T.n_tuple (by decide +kernel) rfl) pa_nil))) pa_nil))))),fun ds Qd h=>?_⟩
 obtain ⟨d,rfl,hd,q⟩ := h
 exact ws_ret (ew_isi2 (by decide) (by decide) (ew_var rfl ⟨hd,q⟩))
abbrev T_is_whole := T1 isWholeD
abbrev N_is_whole : List Str := ["thing"]
theorem S_is_whole : FnScope N_is_whole ["thing"] (defScope s_is_whole) := ⟨rfl,rfl,rfl,by decide +kernel,rfl,by decide +kernel,by decide +kernel⟩
theorem ok_is_whole (T : TX P K mg) : FnB P w K mg base 1 "is_whole" ["thing"] (spP K T_is_whole) := by
 obtain ⟨fd,F⟩ := T.F_is_whole
 refine fn_P (k := 0) F T.g_is_whole (fun _ _ _ _ _ _ us hl=>match us,hl with | [_],_=>rfl) S_is_whole (fun ds Qd h=>by first | (obtain ⟨rfl,_⟩ := h; rfl) | (obtain ⟨_,rfl,_⟩ := h; rfl) | (obtain ⟨_,_,rfl,_⟩ := h; rfl) | (obtain ⟨_,_,_,rfl,_⟩ := h; rfl) | (obtain ⟨_,_,_,_,rfl,_⟩ := h; rfl) | (obtain ⟨_,_,_,_,_,rfl,_⟩ := h; rfl) | (obtain ⟨_,_,_,_,_,_,rfl,_⟩ := h; rfl) | (obtain ⟨_,_,_,_,_,_,_,rfl,_⟩ := h; rfl) | (obtain ⟨_,_,_,_,_,_,_,_,rfl,_⟩ := h; rfl) | (obtain ⟨_,_,_,_,_,_,_,_,_,rfl,_⟩ := h; rfl) | (obtain ⟨_,_,_,_,_,_,_,_,_,_,rfl,_⟩ := h; rfl) | (obtain ⟨_,_,_,_,_,_,_,_,_,_,_,rfl,_⟩ := h; rfl)) fun cdv A outer s H E hr=>⟨_,(pss_one (ps_ret (L2.pe_and (pe_callB (kisi (K := K) rfl) (by rfl) T.n_isinstance (by decide +kernel) (pa_cons (pv 0) (pa_cons (pe_bltn (v := .ty "int") (by rfl) T.n_int (by decide +kernel) rfl) pa_nil))) (pe_one (pe_not (pe_callB (kisi (K := K) rfl) (by rfl) T.n_isinstance (by decide +kernel) (pa_cons (pv 0) (pa_cons (pe_bltn (v := .ty "bool") (by rfl) T.n_bool (by decide +kernel) rfl) pa_nil)))))))),fun ds Qd h=>?_⟩
 obtain ⟨d,rfl,hd,q⟩ := h
 refine ws_ret (ew_andV (ew_isi (by decide) (ew_var rfl ⟨hd.plain,_,rfl,?_⟩)))
 cases hd with
 | int i=>exact iteT (ew_notV (ew_isi (by decide) (ew_var rfl ⟨rfl,_,rfl,q⟩)))
 | bl b=>exact iteT (ew_notV (ew_isi (by decide) (ew_var rfl ⟨rfl,_,rfl,q⟩)))
 | _=>exact iteF q
abbrev T_is_name := T1 isNameD
abbrev N_is_name : List Str := ["thing", "sign"]
theorem S_is_name : FnScope N_is_name ["thing"] (defScope s_is_name) := ⟨rfl,rfl,rfl,by decide +kernel,rfl,by decide +kernel,by decide +kernel⟩
theorem ok_is_name (T : TX P K mg) : FnB P w K mg base 1 "is_name" ["thing"] (spP K T_is_name) := by
 obtain ⟨fd,F⟩ := T.F_is_name
 refine fn_P (k := 0) F T.g_is_name (fun _ _ _ _ _ _ us hl=>match us,hl with | [_],_=>rfl) S_is_name (fun ds Qd h=>by first | (obtain ⟨rfl,_⟩ := h; rfl) | (obtain ⟨_,rfl,_⟩ := h; rfl) | (obtain ⟨_,_,rfl,_⟩ := h; rfl) | (obtain ⟨_,_,_,rfl,_⟩ := h; rfl) | (obtain ⟨_,_,_,_,rfl,_⟩ := h; rfl) | (obtain ⟨_,_,_,_,_,rfl,_⟩ := h; rfl) | (obtain ⟨_,_,_,_,_,_,rfl,_⟩ := h; rfl) | (obtain ⟨_,_,_,_,_,_,_,rfl,_⟩ := h; rfl) | (obtain ⟨_,_,_,_,_,_,_,_,rfl,_⟩ := h; rfl) | (obtain ⟨_,_,_,_,_,_,_,_,_,rfl,_⟩ := h; rfl) | (obtain ⟨_,_,_,_,_,_,_,_,_,_,rfl,_⟩ := h; rfl) | (obtain ⟨_,_,_,_,_,_,_,_,_,_,_,rfl,_⟩ := h; rfl)) fun cdv A outer s H E hr=>⟨_,(pss_one (ps_ret (L2.pe_and (pe_callB (kisi (K := K) rfl) (by rfl) T.n_isinstance (by decide +kernel) (pa_cons (pv 0) (pa_cons (pe_bltn (v := .ty "str") (by rfl) T.n_str (by decide +kernel) rfl) pa_nil))) (L2.pe_and (pe_chain op_le op_le pe_int (pe_callB (klen (K := K) rfl) (by rfl) T.n_len (by decide +kernel) (pa_cons (pv 0) pa_nil)) (pe_glob (v := .int 8) (by rfl) T.c_LONGEST.choose_spec ⟨_,rfl⟩)) (pe_one (pe_callB (kall rfl (K := K) rfl) (by rfl) T.n_all (by decide +kernel) (pa_cons (pe_lc (own := [("sign",1)]) rfl S_is_name.nd (pi_str (pv 0)) (blkOk_by (own := [("sign",1)]) (N := N_is_name) (sc := defScope s_is_name) (by decide +kernel)) (fun _ _ _ _ _=>(pg_name (i := 1) S_is_name.nd rfl (by first | exact .inl rfl | exact .inr rfl))) (fun _ _ _ _ _=>pts_nil) (fun _ _ _ _ _=>(pe_cmpR op_in_sign (pv 1) (pe_glob (v := .str "abcdefghijklmnopqrstuvwxyz0123456789") (by rfl) T.c_SIGNS.choose_spec ⟨_,rfl⟩) (by rfl)))) pa_nil))))))),fun ds Qd h=>?_⟩
 obtain ⟨d,rfl,hd,q⟩ := h
 refine ws_ret (ew_andV (ew_isi (by decide) (ew_var rfl ⟨hd.plain,_,rfl,?_⟩)))
 cases hd with
 | @str x hx =>
  refine iteT (ew_andV (ew_chain (ew_int (ew_cb (ea_cons (ew_var rfl (ea_nil (opa_len_str (by omega) (op2_cmp ⟨_,rfl,?_⟩)))))))))
  have q : Qd (.bl (decide ((1 : Int) <= x.length) && (decide ((x.length : Int) <= 8) && x.cps.toList.all fun c=>decide (c ∈ signs.cps.toList)))) := q
  cases e1 : decide ((1 : Int) <= x.length) with
  | false =>
   rw [e1] at q
   exact iteF ⟨_,rfl,iteF q⟩
  | true =>
   rw [e1] at q
   refine iteT (ew_int (op2_cmp ⟨_,rfl,?_⟩))
   cases e2 : decide ((x.length : Int) <= 8) with
   | false =>
    rw [e2] at q
    exact iteF q
   | true =>
    rw [e2] at q
    refine iteT (ew_cb (ea_cons (ew_new (en_lcB (f := fun d=>match d with | .str z=>decide (z.cps.toList.head?.getD 0 ∈ signs.cps.toList) | _=>false) (ei_str (ew_var rfl ⟨x,rfl,rfl,?_,?_,ea_nil ?_⟩))))))
    ·rw [List.length_map]
     have : x.cps.toList.length = x.length := by simp [Str.length]
     omega
    ·intro i d hd
     rw [List.getElem?_map] at hd
     obtain ⟨c,_,rfl⟩ := Option.map_eq_some_iff.mp hd
     refine gv_name (by decide) (ew_op (ew_var rfl (ew_str (op2_sign ⟨rfl,?_⟩))))
     rfl
    ·refine opa_all ?_
     rw [List.all_map,List.all_map]
     exact q
 | _=>exact iteF q
def T_are_unlike : List D -> (D -> Prop) -> Prop := fun ds Q=>∃ d xs,ds = [d] /\ d.seq = some (strsD xs) /\ xs.length <= 1000 /\ Q (.bl (decide xs.Nodup))
abbrev N_are_unlike : List Str := ["things", "at", "thing"]
theorem S_are_unlike : FnScope N_are_unlike ["things"] (defScope s_are_unlike) := ⟨rfl,rfl,rfl,by decide +kernel,rfl,by decide +kernel,by decide +kernel⟩
theorem ok_are_unlike (T : TX P K mg) : FnB P w K mg base 1 "are_unlike" ["things"] (spP K T_are_unlike) := by
 obtain ⟨fd,F⟩ := T.F_are_unlike
 refine fn_P (k := 0) F T.g_are_unlike (fun _ _ _ _ _ _ us hl=>match us,hl with | [_],_=>rfl) S_are_unlike (fun ds Qd h=>by first | (obtain ⟨rfl,_⟩ := h; rfl) | (obtain ⟨_,rfl,_⟩ := h; rfl) | (obtain ⟨_,_,rfl,_⟩ := h; rfl) | (obtain ⟨_,_,_,rfl,_⟩ := h; rfl) | (obtain ⟨_,_,_,_,rfl,_⟩ := h; rfl) | (obtain ⟨_,_,_,_,_,rfl,_⟩ := h; rfl) | (obtain ⟨_,_,_,_,_,_,rfl,_⟩ := h; rfl) | (obtain ⟨_,_,_,_,_,_,_,rfl,_⟩ := h; rfl) | (obtain ⟨_,_,_,_,_,_,_,_,rfl,_⟩ := h; rfl) | (obtain ⟨_,_,_,_,_,_,_,_,_,rfl,_⟩ := h; rfl) | (obtain ⟨_,_,_,_,_,_,_,_,_,_,rfl,_⟩ := h; rfl) | (obtain ⟨_,_,_,_,_,_,_,_,_,_,_,rfl,_⟩ := h; rfl)) fun cdv A outer s H E hr=>⟨_,(pss_one (ps_ret (pe_callB (kall rfl (K := K) rfl) (by rfl) T.n_all (by decide +kernel) (pa_cons (pe_lc (own := [("at",1),("thing",2)]) rfl S_are_unlike.nd (kenum (K := K) rfl (by rfl) T.n_enumerate (pa_cons (pv 0) pa_nil)) (blkOk_by (own := [("at",1),("thing",2)]) (N := N_are_unlike) (sc := defScope s_are_unlike) (by decide +kernel)) (fun _ _ _ _ _=>(kgt (K := K) (n := 2) rfl rfl (pgs_cons (pg_name (i := 1) S_are_unlike.nd rfl (by first | exact .inl rfl | exact .inr rfl)) (pgs_cons (pg_name (i := 2) S_are_unlike.nd rfl (by first | exact .inl rfl | exact .inr rfl)) pgs_nil)))) (fun _ _ _ _ _=>pts_nil) (fun _ _ _ _ _=>(pe_cmpR (knotin (K := K) rfl) (pv 2) (pe_slice (ksl (K := K) rfl) (pv 0) po_none (po_some (pv 1))) (by rfl)))) pa_nil)))),fun ds Qd h=>?_⟩
 obtain ⟨d,xs,rfl,hd,hl,q⟩ := h
 refine ws_ret (ew_cb (ea_cons (ew_new (en_lcB (f := fun d=>match d with | .tup [.int i,.str x]=>!decide (x ∈ xs.take i.toNat) | _=>false) (ei_enum d hd (ea_cons (ew_var rfl (ea_nil ⟨rfl,rfl,?_,fun i y hy=>?_,ea_nil ?_⟩))))))))
 ·rw [enumD_len,strsD,List.length_map]; omega
 ·have hlt := (List.getElem?_eq_some_iff.mp hy).1
  rw [enumD_len,strsD,List.length_map] at hlt
  have e := enumD_at (ds := strsD xs) (i := i) (d := .str xs[i]) (by rw [strsD,List.getElem?_map,List.getElem?_eq_getElem hlt]; rfl)
  rw [hy] at e
  cases e
  refine gv_tup rfl (gvs_cons (gv_name (by decide) (gvs_cons (gv_name (by decide) (gvs_nil ?_)))))
  refine ew_op (ew_var rfl (ew_slU d hd (ew_var rfl ⟨rfl,eo_none (eo_some (ew_var rfl ⟨_,rfl,fun y hy=>?_⟩))⟩)))
  refine op2_in (ys := xs.take i) (by rw [hy,cut_to,strsD,strsD,List.map_take]) ⟨rfl,?_⟩
  rfl
 ·refine opa_all ?_
  have e : ((enumD (strsD xs)).map fun d=>match d with | .tup [.int i,.str x]=>!decide (x ∈ xs.take i.toNat) | _=>false).all id = decide xs.Nodup := by
   have h0 := nodup_take xs []
   simp only [List.nil_append,List.not_mem_nil,not_false_eq_true,implies_true,and_true] at h0
   rw [<- h0,List.all_map]
   rw [Bool.eq_iff_iff,List.all_eq_true,List.all_eq_true]
   constructor
   ·intro h i hi
    rw [List.mem_range] at hi
    rw [List.getElem?_eq_getElem hi]
    have e := enumD_at (ds := strsD xs) (i := i) (d := .str xs[i]) (by rw [strsD,List.getElem?_map,List.getElem?_eq_getElem hi]; rfl)
    exact h _ (List.mem_of_getElem? e)
   ·intro h y hy
    obtain ⟨i,hi⟩ := List.mem_iff_getElem?.mp hy
    have hlt := (List.getElem?_eq_some_iff.mp hi).1
    rw [enumD_len,strsD,List.length_map] at hlt
    have e := enumD_at (ds := strsD xs) (i := i) (d := .str xs[i]) (by rw [strsD,List.getElem?_map,List.getElem?_eq_getElem hlt]; rfl)
    rw [hi] at e
    cases e
    have := h i (List.mem_range.mpr hlt)
    rw [List.getElem?_eq_getElem hlt] at this
    exact this
  rw [e]; exact q
end
end K65
namespace K65
open PySem PySem.Spec PyProof.Rows L2 DL SrtK
variable [TabL]
inductive OkN : Nat -> D -> Prop
 | non {n : Nat} : OkN n .non
 | bl {n : Nat} (b : Bool) : OkN n (.bl b)
 | int {n : Nat} (i : Int) : OkN n (.int i)
 | str {n : Nat} {x : Str} : x.length <= 1000 -> OkN n (.str x)
 | lst {n : Nat} {xs : List D} : xs.length <= 1000 -> (∀ x ∈ xs,OkN n x) -> OkN (n + 1) (.lst xs)
 | tup {n : Nat} {xs : List D} : xs.length <= 1000 -> (∀ x ∈ xs,OkN n x) -> OkN (n + 1) (.tup xs)
 | dk {n : Nat} {kvs : List (Key × D)} : kvs.length <= 1000 -> OkN n (.dk kvs)
theorem OkN.ok {n : Nat} {d : D} (h : OkN n d) : Ok d := by
 induction h with
 | non=>exact .non
 | bl b=>exact .bl b
 | int i=>exact .int i
 | str h=>exact .str h
 | lst h _ ih=>exact .lst h ih
 | tup h _ ih=>exact .tup h ih
 | dk h=>exact .dk h
theorem OkN.up {n : Nat} {d : D} (h : OkN n d) : OkN (n + 1) d := by
 induction h with
 | non=>exact .non
 | bl b=>exact .bl b
 | int i=>exact .int i
 | str h=>exact .str h
 | lst h _ ih=>exact .lst h ih
 | tup h _ ih=>exact .tup h ih
 | dk h=>exact .dk h
theorem OkN.mem {n : Nat} {d : D} {xs : List D} (h : OkN (n + 1) d) (e : d.seq = some xs) : xs.length <= 1000 /\ ∀ x ∈ xs,OkN n x := by
 cases h with
 | lst a b=>cases e; exact ⟨a,b⟩
 | tup a b=>cases e; exact ⟨a,b⟩
 | _=>cases e
def astD : Nat -> D -> D
 | n + 1,.lst xs=>.tup (xs.map (astD n))
 | n + 1,.tup xs=>.tup (xs.map (astD n))
 | _,d=>d
theorem astD_seq {n : Nat} {d : D} {xs : List D} (e : d.seq = some xs) (h : OkN (n + 1) d) : astD (n + 1) d = .tup (xs.map (astD n)) := by
 cases h with
 | lst a b=>cases e; rfl
 | tup a b=>cases e; rfl
 | _=>cases e
theorem astD_non {n : Nat} {d : D} (e : d.seq = none) (h : OkN n d) : astD n d = d := by
 cases n <;> cases h <;> first | rfl | cases e
section
variable {P : Program} {w : World} {K : PySem.W.Frag} {mg : Str -> Option Value} {base : Heap}
abbrev N_as_tuples : List Str := ["thing", "one"]
theorem S_as_tuples : FnScope N_as_tuples ["thing"] (defScope s_as_tuples) := ⟨rfl,rfl,rfl,by decide +kernel,rfl,by decide +kernel,by decide +kernel⟩
def T_ast (n : Nat) : List D -> (D -> Prop) -> Prop := fun ds Q=>∃ d,ds = [d] /\ OkN n d /\ Q (astD n d)
theorem ast_step (T : TX P K mg) (n : Nat) {R : List D -> (D -> Prop) -> Prop} (hR : ∀ m,n = m + 1 -> R = T_ast m) (G_as_tuples : FnB P w K mg base (n + 1) "as_tuples" ["thing"] (spP K R)) : FnB P w K mg base (n + 2) "as_tuples" ["thing"] (spP K (T_ast n)) := by
 obtain ⟨fd,F⟩ := T.F_as_tuples
 have G_is_list := ok_is_list (P := P) (w := w) (base := base) T
 refine fn_P (k := n + 1) F T.g_as_tuples (fun _ _ _ _ _ _ us hl=>match us,hl with | [_],_=>rfl) S_as_tuples (fun ds Qd h=>by obtain ⟨_,rfl,_⟩ := h; rfl) fun cdv A outer s H E hr=>⟨_,(pss_one (ps_ret (pe_ifExp (pt_val (pe_callF G_is_list (hr.mono (by first | decide | omega)) (pa_cons (pv 0) pa_nil))) (pe_callTy (ktuple (K := K) rfl) (by rfl) T.n_tuple (by decide +kernel) (pa_cons (pe_lc (own := [("one",1)]) rfl S_as_tuples.nd (kwU (K := K) rfl (pv 0)) (blkOk_by (own := [("one",1)]) (N := N_as_tuples) (sc := defScope s_as_tuples) (by decide +kernel)) (fun _ _ _ _ _=>(pg_name (i := 1) S_as_tuples.nd rfl (by first | exact .inl rfl | exact .inr rfl))) (fun _ _ _ _ _=>pts_nil) (fun _ _ _ _ _=>(pe_callF G_as_tuples (hr.mono (by first | decide | omega)) (pa_cons (pv 1) pa_nil)))) pa_nil)) (pv 0)))),fun ds Qd h=>?_⟩
 obtain ⟨d,rfl,hd,q⟩ := h
 refine ws_ret<|ew_if<|et_B<|ew_callP<|ea_cons<|ew_var rfl<|ea_nil ⟨d,rfl,hd.ok.plain,_,rfl,?_⟩
 cases e : d.seq with
 | none =>
  rw [seq_isList e hd.ok]
  rw [astD_non e hd] at q
  exact iteF<|ew_var rfl q
 | some xs =>
  rw [seq_isList' e]
  cases n with
  | zero=>cases hd <;> cases e
  | succ n =>
   cases hR n rfl
   rw [astD_seq e hd] at q
   obtain ⟨hl,hm⟩ := hd.mem e
   exact iteT<|ew_cb<|ea_cons<|ew_new<|en_lcM (f := astD n)<|ei_seq d e<|ew_var rfl ⟨rfl,rfl,by omega,fun i y hy=>gv_name (by decide)<|ew_callP<|ea_cons<|ew_var rfl<|ea_nil ⟨y,rfl,hm y (List.mem_of_getElem? hy),rfl,rfl⟩,ea_nil<|opa_tuple rfl q⟩
theorem ast_all (T : TX P K mg) : ∀ n : Nat,FnB P w K mg base (n + 2) "as_tuples" ["thing"] (spP K (T_ast n))
 | 0=>by
  obtain ⟨fd,F⟩ := T.F_as_tuples
  exact ast_step T 0 (R := fun _ _=>False) (fun m h=>(nomatch h)) (fn_P (k := 0) F T.g_as_tuples (fun _ _ _ _ _ _ us hl=>match us,hl with | [_],_=>rfl) S_as_tuples (fun ds Qd h=>h.elim) fun cdv A outer s H E hr=>⟨fun _ _ _=>False,⟨fun _ _ _ _ _ _ h=>h.elim⟩,fun ds Qd h=>h.elim⟩)
 | n + 1=>ast_step T (n + 1) (R := T_ast n) (fun m h=>by cases h; rfl) (ast_all T n)
abbrev T_as_tuples := T_ast 4
theorem ok_as_tuples (T : TX P K mg) : FnB P w K mg base 6 "as_tuples" ["thing"] (spP K T_as_tuples) := ast_all T 4
def cntB (most : Option Int) : D -> Bool
 | .int i=>decide (0 <= i) && most.all fun m=>decide (i <= m)
 | _=>false
def countsD (d : D) (many : Int) (most : Option Int) : Bool := match d.seq with
 | some xs=>decide ((xs.length : Int) = many) && (xs.all isWholeD && xs.all (cntB most))
 | none=>false
def optI : Option Int -> D
 | some i=>.int i
 | none=>.non
theorem all_map_id {xs : List D} {f : D -> Bool} : (xs.map f).all id = xs.all f := by rw [List.all_map]; rfl
def T_are_counts : List D -> (D -> Prop) -> Prop := fun ds Q=>∃ (d : D) (many : Int) (most : Option Int),ds = [d,.int many,optI most] /\ Ok d /\ Q (.bl (countsD d many most))
abbrev N_are_counts : List Str := ["thing", "many", "most", "one"]
theorem S_are_counts : FnScope N_are_counts ["thing", "many", "most"] (defScope s_are_counts) := ⟨rfl,rfl,rfl,by decide +kernel,rfl,by decide +kernel,by decide +kernel⟩
theorem ok_are_counts (T : TX P K mg) : FnB P w K mg base 2 "are_counts" ["thing", "many", "most"] (spP K T_are_counts) := by
 obtain ⟨fd,F⟩ := T.F_are_counts
 have G_is_list := ok_is_list (P := P) (w := w) (base := base) T
 have G_is_whole := ok_is_whole (P := P) (w := w) (base := base) T
 refine fn_P (k := 1) F T.g_are_counts (fun _ _ _ _ _ _ us hl=>match us,hl with | [_,_,_],_=>rfl) S_are_counts (fun ds Qd h=>by first | (obtain ⟨rfl,_⟩ := h; rfl) | (obtain ⟨_,rfl,_⟩ := h; rfl) | (obtain ⟨_,_,rfl,_⟩ := h; rfl) | (obtain ⟨_,_,_,rfl,_⟩ := h; rfl) | (obtain ⟨_,_,_,_,rfl,_⟩ := h; rfl) | (obtain ⟨_,_,_,_,_,rfl,_⟩ := h; rfl) | (obtain ⟨_,_,_,_,_,_,rfl,_⟩ := h; rfl) | (obtain ⟨_,_,_,_,_,_,_,rfl,_⟩ := h; rfl) | (obtain ⟨_,_,_,_,_,_,_,_,rfl,_⟩ := h; rfl) | (obtain ⟨_,_,_,_,_,_,_,_,_,rfl,_⟩ := h; rfl) | (obtain ⟨_,_,_,_,_,_,_,_,_,_,rfl,_⟩ := h; rfl) | (obtain ⟨_,_,_,_,_,_,_,_,_,_,_,rfl,_⟩ := h; rfl)) fun cdv A outer s H E hr=>⟨_,(pss_cons (ps_if (PW.pt (pw_or (pt_not (pt_val (pe_callF G_is_list (hr.mono (by first | decide | omega)) (pa_cons (pv 0) pa_nil)))) (pw_or (pt_cmpR op_ne (pe_callB (klen (K := K) rfl) (by rfl) T.n_len (by decide +kernel) (pa_cons (pv 0) pa_nil)) (pv 1) (nomark _)) (pw_or1 (pt_not (pt_val (pe_callB (kall rfl (K := K) rfl) (by rfl) T.n_all (by decide +kernel) (pa_cons (pe_lc (own := [("one",3)]) rfl S_are_counts.nd (kwU (K := K) rfl (pv 0)) (blkOk_by (own := [("one",3)]) (N := N_are_counts) (sc := defScope s_are_counts) (by decide +kernel)) (fun _ _ _ _ _=>(pg_name (i := 3) S_are_counts.nd rfl (by first | exact .inl rfl | exact .inr rfl))) (fun _ _ _ _ _=>pts_nil) (fun _ _ _ _ _=>(pe_callF G_is_whole (hr.mono (by first | decide | omega)) (pa_cons (pv 3) pa_nil)))) pa_nil)))))))) (pss_one (ps_ret pe_bl)) pss_nil)
   (pss_one (ps_ret (pe_callB (kall rfl (K := K) rfl) (by rfl) T.n_all (by decide +kernel) (pa_cons (pe_lc (own := [("one",3)]) rfl S_are_counts.nd (kwU (K := K) rfl (pv 0)) (blkOk_by (own := [("one",3)]) (N := N_are_counts) (sc := defScope s_are_counts) (by decide +kernel)) (fun _ _ _ _ _=>(pg_name (i := 3) S_are_counts.nd rfl (by first | exact .inl rfl | exact .inr rfl))) (fun _ _ _ _ _=>pts_nil) (fun _ _ _ _ _=>(L2.pe_and (pe_cmpR op_le pe_int (pv 3) (nomark _)) (pe_one (L2.pe_or (pe_cmpR op_isN (pv 2) pe_non (nomark _)) (pe_one (pe_cmpR op_le (pv 3) (pv 2) (nomark _)))))))) pa_nil))))),fun ds Qd h=>?_⟩
 obtain ⟨d,many,most,rfl,ok,q⟩ := h
 refine ws_seq<|ws_if<|et_or<|et_not<|et_B<|ew_callP<|ea_cons<|ew_var rfl<|ea_nil ⟨d,rfl,ok.plain,_,rfl,?_⟩
 cases hs : d.seq with
 | none =>
  rw [seq_isList hs ok]
  have e : countsD d many most = false := by unfold countsD; rw [hs]
  rw [e] at q
  exact iteT<|iteT<|ws_ret<|ew_bl q
 | some xs =>
  have e : countsD d many most = (decide ((xs.length : Int) = many) && (xs.all isWholeD && xs.all (cntB most))) := by unfold countsD; rw [hs]
  rw [e] at q
  obtain ⟨hl,ho⟩ := ok.seq hs
  rw [seq_isList' hs]
  refine iteF<|et_or<|et_test<|ew_op<|ew_cb<|ea_cons<|ew_var rfl<|ea_nil<|opa_len hs<|ew_var rfl<|op2_ne_int ⟨_,rfl,?_⟩
  by_cases c1 : (xs.length : Int) = many
  ·rw [decide_eq_true c1] at q ⊢
   refine iteF<|et_not<|et_B<|ew_cb<|ea_cons<|ew_new<|en_lcB (f := isWholeD)<|ei_seq d hs<|ew_var rfl ⟨rfl,rfl,by omega,fun i y hy=>gv_name (by decide)<|ew_callP<|ea_cons<|ew_var rfl<|ea_nil ⟨y,rfl,ho y (List.mem_of_getElem? hy),rfl,rfl⟩,ea_nil<|opa_all ⟨_,rfl,?_⟩⟩
   rw [all_map_id]
   cases c2 : xs.all isWholeD with
   | false =>
    rw [c2] at q
    exact iteT<|ws_ret<|ew_bl q
   | true =>
    rw [c2] at q
    have hi : ∀ y ∈ xs,∃ i,y = .int i := fun y hy=>by
     have := List.all_eq_true.mp c2 y hy
     cases y <;> first | exact ⟨_,rfl⟩ | cases this
    refine iteF<|ws_next<|ws_ret<|ew_cb<|ea_cons<|ew_new<|en_lcB (f := cntB most)<|ei_seq d hs<|ew_var rfl ⟨rfl,rfl,by omega,fun i y hy=>?_,ea_nil<|opa_all ?_⟩
    ·obtain ⟨j,rfl⟩ := hi y (List.mem_of_getElem? hy)
     refine gv_name (by decide)<|ew_andV<|ew_op<|ew_int<|ew_var rfl<|op2_cmp ⟨_,rfl,?_⟩
     show if decide (0 <= j) = true then _ else _
     cases c3 : decide (0 <= j) with
     | false=>exact iteF ⟨rfl,by show D.bl false = .bl (decide (0 <= j) && _); rw [c3]; rfl⟩
     | true =>
      refine iteT<|ew_orV<|ew_op<|ew_var rfl<|ew_non<|op2_isN ⟨_,rfl,?_⟩
      cases most with
      | none=>exact iteT ⟨rfl,by show D.bl true = .bl (decide (0 <= j) && true); rw [c3]; rfl⟩
      | some m=>exact iteF<|ew_op<|ew_var rfl<|ew_var rfl<|op2_cmp ⟨rfl,by show D.bl (decide (j <= m)) = .bl (decide (0 <= j) && decide (j <= m)); rw [c3]; rfl⟩
    ·rw [all_map_id]; exact q
  ·rw [decide_eq_false c1] at q ⊢
   exact iteT<|iteT<|ws_ret<|ew_bl q
end
end K65
namespace K65
open PySem PySem.Spec PyProof.Rows L2 DL SrtK
variable [TabL]
def intsT (xs : List Int) : D := .tup (xs.map D.int)
def nums (most : Nat) : List Int := (List.range (most + 1)).map fun i : Nat=>Int.ofNat i
def allC (most : Nat) : Nat -> List (List Int)
 | 0=>[[]]
 | n + 1=>(allC most n).flatMap fun row=>(nums most).map fun i=>row ++ [i]
theorem allC_len (most : Nat) : ∀ n,(allC most n).length = (most + 1) ^ n
 | 0=>rfl
 | n + 1=>by
  unfold allC
  have : ∀ (xs : List (List Int)),(xs.flatMap fun row=>(nums most).map fun i=>row ++ [i]).length = xs.length * (most + 1) := by
   intro xs
   induction xs with
   | nil=>simp
   | cons x xs ih =>
    rw [List.flatMap_cons,List.length_append,ih,List.length_cons,List.length_map]
    unfold nums
    rw [List.length_map,List.length_range,Nat.add_mul,Nat.one_mul,Nat.add_comm]
  rw [this,allC_len most n,Nat.pow_succ]
theorem allC_row (most : Nat) : ∀ {n : Nat} {row : List Int},row ∈ allC most n -> row.length = n /\ ∀ x ∈ row,0 <= x /\ x <= (most : Int)
 | 0,row,h=>by
  rw [List.mem_singleton.mp h]
  exact ⟨rfl,fun x hx=>(nomatch hx)⟩
 | n + 1,row,h=>by
  obtain ⟨r,hr,h⟩ := List.mem_flatMap.mp h
  obtain ⟨i,hi,rfl⟩ := List.mem_map.mp h
  obtain ⟨h1,h2⟩ := allC_row most hr
  refine ⟨by rw [List.length_append,h1]; rfl,fun x hx=>?_⟩
  rcases List.mem_append.mp hx with hx | hx
  ·exact h2 x hx
  ·rw [List.mem_singleton.mp hx]
   obtain ⟨m,hm,rfl⟩ := List.mem_map.mp hi
   rw [List.mem_range] at hm
   exact ⟨Int.natCast_nonneg m,by show (m : Int) <= most; omega⟩
theorem nums_at {most j : Nat} (h : j < most + 1) : (nums most)[j]? = some (j : Int) := by
 unfold nums
 rw [List.getElem?_map,List.getElem?_range h]; rfl
section
variable {P : Program} {w : World} {K : PySem.W.Frag} {mg : Str -> Option Value} {base : Heap}
def T_all_counts : List D -> (D -> Prop) -> Prop := fun ds Q=>∃ (many most : Nat),ds = [.int (many : Nat),.int (most : Nat)] /\ many <= 3 /\ most <= 3 /\ Q (.lst ((allC most many).map intsT))
abbrev N_all_counts : List Str := ["many", "most", "found", "turn", "row", "number"]
theorem S_all_counts : FnScope N_all_counts ["many", "most"] (defScope s_all_counts) := ⟨rfl,rfl,rfl,by decide +kernel,rfl,by decide +kernel,by decide +kernel⟩
theorem ok_all_counts (T : TX P K mg) : FnB P w K mg base 1 "all_counts" ["many", "most"] (spP K T_all_counts) := by
 obtain ⟨fd,F⟩ := T.F_all_counts
 refine fn_P (k := 0) F T.g_all_counts (fun _ _ _ _ _ _ us hl=>match us,hl with | [_,_],_=>rfl) S_all_counts (fun ds Qd h=>by first | (obtain ⟨rfl,_⟩ := h; rfl) | (obtain ⟨_,rfl,_⟩ := h; rfl) | (obtain ⟨_,_,rfl,_⟩ := h; rfl) | (obtain ⟨_,_,_,rfl,_⟩ := h; rfl) | (obtain ⟨_,_,_,_,rfl,_⟩ := h; rfl) | (obtain ⟨_,_,_,_,_,rfl,_⟩ := h; rfl) | (obtain ⟨_,_,_,_,_,_,rfl,_⟩ := h; rfl) | (obtain ⟨_,_,_,_,_,_,_,rfl,_⟩ := h; rfl) | (obtain ⟨_,_,_,_,_,_,_,_,rfl,_⟩ := h; rfl) | (obtain ⟨_,_,_,_,_,_,_,_,_,rfl,_⟩ := h; rfl) | (obtain ⟨_,_,_,_,_,_,_,_,_,_,rfl,_⟩ := h; rfl) | (obtain ⟨_,_,_,_,_,_,_,_,_,_,_,rfl,_⟩ := h; rfl)) fun cdv A outer s H E hr=>⟨_,(pss_cons (ps_set (i := 2) S_all_counts.nd rfl (by first | exact .inl rfl | exact .inr rfl) (pe_lst (pa_cons (pe_tup pa_nil) pa_nil)))
   (pss_cons (ps_for PassesOwn.never rfl (pi_range1 (by rfl) T.n_range (pa_cons (pv 0) pa_nil)) (pg_name (i := 3) S_all_counts.nd rfl (by first | exact .inl rfl | exact .inr rfl))
   (pss_one (ps_setLc2 (i := 2) (own := [("row",4),("number",5)]) (vs1 := [5]) rfl S_all_counts.nd rfl rfl (sw_true rfl rfl rfl (by decide +kernel)) (kwU (K := K) rfl (pv 2)) (blkOk_by (own := [("row",4),("number",5)]) (N := N_all_counts) (sc := defScope s_all_counts) (by decide +kernel)) (by decide) (fun _ _ _ _ _=>(pg_name (i := 4) S_all_counts.nd rfl (by first | exact .inl rfl | exact .inr rfl))) (fun _ _ _ _ _=>pts_nil) (fun _ _ _ _ _=>(pi_range1 (by rfl) T.n_range (pa_cons (pe_op op_add (pv 1) pe_int) pa_nil))) (fun _ _ _ _ _=>(pg_name (i := 5) S_all_counts.nd rfl (by first | exact .inl rfl | exact .inr rfl))) (fun _ _ _ _ _=>pts_nil) (fun _ _ _ _ _=>(pe_tup (pa_starK (K := K) rfl (pv 4) (pa_cons (pv 5) pa_nil)))))))
   (pss_one (ps_ret (pv 2))))),fun ds Qd h=>?_⟩
 obtain ⟨many,most,rfl,h1,h2,q⟩ := h
 have hlen : ∀ i,i <= 3 -> (allC most i).length <= 64 := fun i hi=>by
  rw [allC_len]
  exact Nat.le_trans (Nat.pow_le_pow_right (by omega) hi) (Nat.pow_le_pow_left (by omega : most + 1 <= 4) 3)
 have hnl : (nums most).length = most + 1 := by unfold nums; rw [List.length_map,List.length_range]
 refine ws_seq<|ws_asg<|ew_new<|en_lst<|ea_cons<|ew_tup<|ea_nil ⟨by show 0 <= 100000; decide,ea_nil ⟨by show 1 <= 100000; decide,gw_name ?_⟩⟩
 refine ws_seq<|ws_for<|ei_range1<|ea_cons<|ew_var rfl<|ea_nil ⟨_,rfl,by omega,by omega,fun i ρ=>∃ s3 : Sl,ρ = [.sh (.int (many : Nat)),.sh (.int (most : Nat)),.sh (.lst ((allC most i).map intsT)),s3,.un,.un],⟨_,rfl⟩,?_,?_⟩
 ·rintro i d ρ' hd ⟨s3,rfl⟩
  have hlt := (List.getElem?_eq_some_iff.mp hd).1
  rw [List.length_map,List.length_range,Int.toNat_natCast] at hlt
  have hl := hlen i (by omega)
  have hrow : ∀ row ∈ allC most i,row.length = i := fun row h=>(allC_row most h).1
  have hnext : allC most (i + 1) = (allC most i).flatMap fun row=>(nums most).map fun i=>row ++ [i] := rfl
  generalize hA : allC most i = A at *
  refine gw_name<|ws_asg<|ew_new<|en_lc2<|ei_seq (.lst (A.map intsT)) rfl<|ew_var rfl ⟨rfl,rfl,by rw [List.length_map]; omega,fun n acc=>acc = ((A.take n).flatMap fun row=>(nums most).map fun i=>row ++ [i]).map intsT,rfl,fun n y acc hy hp=>?_,fun acc hp=>gw_name ⟨.sh d,?_⟩⟩
  ·rw [List.getElem?_map] at hy
   obtain ⟨row,hr,rfl⟩ := Option.map_eq_some_iff.mp hy
   have hnA := (List.getElem?_eq_some_iff.mp hr).1
   have hal : acc.length <= n * (most + 1) := by
    rw [hp,List.length_map]
    have : ∀ (xs : List (List Int)),(xs.flatMap fun row=>(nums most).map fun i=>row ++ [i]).length = xs.length * (most + 1) := by
     intro xs
     induction xs with
     | nil=>simp
     | cons x xs ih=>rw [List.flatMap_cons,List.length_append,ih,List.length_cons,List.length_map,hnl,Nat.add_mul,Nat.one_mul,Nat.add_comm]
    rw [this,List.length_take]
    exact Nat.mul_le_mul_right _ (Nat.min_le_left _ _)
   have hal2 : acc.length <= 64 * 4 := Nat.le_trans hal (Nat.mul_le_mul (by omega) (by omega))
   refine gv_name (by decide)<|ei_range1<|ea_cons<|ew_op<|ew_var rfl<|ew_int<|op2_int<|ea_nil ⟨_,rfl,by omega,by omega,rfl,rfl,fun j acc1=>acc1 = acc ++ (((nums most).take j).map fun i=>intsT (row ++ [i])),by simp,fun j e acc1 he hp1=>⟨?_,?_⟩,fun acc1 hp1=>?_⟩
   ·rw [hp1,List.length_append,List.length_map,List.length_take]
    omega
   ·rw [List.getElem?_map] at he
    obtain ⟨j',hj,rfl⟩ := Option.map_eq_some_iff.mp he
    have hjl := (List.getElem?_eq_some_iff.mp hj).1
    rw [List.getElem?_range (by simpa using hjl)] at hj
    cases hj
    rw [List.length_range] at hjl
    refine gv_name (by decide)<|ew_tup<|ea_star<|ew_var rfl ⟨row.map D.int,rfl,ea_cons<|ew_var rfl<|ea_nil ⟨?_,rfl,?_⟩⟩
    ·rw [List.length_append,List.length_map,hrow row (List.mem_of_getElem? hr)]
     show i + 1 <= 100000
     omega
    ·rw [hp1]
     show acc ++ _ ++ [D.tup (row.map D.int ++ [.int (0 + (j : Int))])] = acc ++ ((nums most).take (j + 1)).map fun i=>intsT (row ++ [i])
     rw [List.take_add_one,nums_at (by omega),List.map_append,List.append_assoc]
     congr 2
     show [D.tup (row.map D.int ++ [.int (0 + (j : Int))])] = [D.tup ((row ++ [(j : Int)]).map D.int)]
     rw [List.map_append,Int.zero_add]; rfl
   ·have el : ((List.range ((most : Int) + 1).toNat).map fun (i : Nat)=>D.int (0 + (i : Int))).length = (nums most).length := by
     rw [List.length_map,List.length_range,hnl]; omega
    rw [hp1,el,List.take_length,hp]
    show _ = ((A.take (n + 1)).flatMap fun row=>(nums most).map fun i=>row ++ [i]).map intsT
    rw [List.take_add_one,hr,List.flatMap_append,List.map_append]
    congr 1
    show _ = (List.flatMap _ [row]).map intsT
    rw [List.flatMap_singleton,List.map_map]; rfl
  ·rw [hp,List.length_map,List.take_length,hnext]; rfl
 ·rintro ρ' ⟨s3,rfl⟩
  rw [List.length_map,List.length_range,Int.toNat_natCast]
  exact ws_ret<|ew_var rfl q
end
end K65
namespace K65
open PySem PySem.Spec PyProof.Rows L2 DL SrtK
variable [TabL]
def halfB (h : D) : Bool := match h.seq with
 | some xs=>countsD h xs.length none
 | none=>false
def bookB (d : D) : Bool := match d.seq with
 | some xs=>decide (xs.length = 2) && xs.all halfB
 | none=>false
section
variable {P : Program} {w : World} {K : PySem.W.Frag} {mg : Str -> Option Value} {base : Heap}
abbrev T_is_book := T1 bookB
abbrev N_is_book : List Str := ["thing", "half"]
theorem S_is_book : FnScope N_is_book ["thing"] (defScope s_is_book) := ⟨rfl,rfl,rfl,by decide +kernel,rfl,by decide +kernel,by decide +kernel⟩
theorem ok_is_book (T : TX P K mg) : FnB P w K mg base 3 "is_book" ["thing"] (spP K T_is_book) := by
 obtain ⟨fd,F⟩ := T.F_is_book
 have G_is_list := ok_is_list (P := P) (w := w) (base := base) T
 have G_are_counts := ok_are_counts (P := P) (w := w) (base := base) T
 refine fn_P (k := 2) F T.g_is_book (fun _ _ _ _ _ _ us hl=>match us,hl with | [_],_=>rfl) S_is_book (fun ds Qd h=>by first | (obtain ⟨rfl,_⟩ := h; rfl) | (obtain ⟨_,rfl,_⟩ := h; rfl) | (obtain ⟨_,_,rfl,_⟩ := h; rfl) | (obtain ⟨_,_,_,rfl,_⟩ := h; rfl) | (obtain ⟨_,_,_,_,rfl,_⟩ := h; rfl) | (obtain ⟨_,_,_,_,_,rfl,_⟩ := h; rfl) | (obtain ⟨_,_,_,_,_,_,rfl,_⟩ := h; rfl) | (obtain ⟨_,_,_,_,_,_,_,rfl,_⟩ := h; rfl) | (obtain ⟨_,_,_,_,_,_,_,_,rfl,_⟩ := h; rfl) | (obtain ⟨_,_,_,_,_,_,_,_,_,rfl,_⟩ := h; rfl) | (obtain ⟨_,_,_,_,_,_,_,_,_,_,rfl,_⟩ := h; rfl) | (obtain ⟨_,_,_,_,_,_,_,_,_,_,_,rfl,_⟩ := h; rfl)) fun cdv A outer s H E hr=>⟨_,(pss_cons (ps_if (PW.pt (pw_or (pt_not (pt_val (pe_callF G_is_list (hr.mono (by first | decide | omega)) (pa_cons (pv 0) pa_nil)))) (pw_or1 (pt_cmpR op_ne (pe_callB (klen (K := K) rfl) (by rfl) T.n_len (by decide +kernel) (pa_cons (pv 0) pa_nil)) pe_int (nomark _))))) (pss_one (ps_ret pe_bl)) pss_nil)
   (pss_one (ps_ret (pe_callB (kall rfl (K := K) rfl) (by rfl) T.n_all (by decide +kernel) (pa_cons (pe_lc (own := [("half",1)]) rfl S_is_book.nd (kwU (K := K) rfl (pv 0)) (blkOk_by (own := [("half",1)]) (N := N_is_book) (sc := defScope s_is_book) (by decide +kernel)) (fun _ _ _ _ _=>(pg_name (i := 1) S_is_book.nd rfl (by first | exact .inl rfl | exact .inr rfl))) (fun _ _ _ _ _=>pts_nil) (fun _ _ _ _ _=>(L2.pe_and (pe_callF G_is_list (hr.mono (by first | decide | omega)) (pa_cons (pv 1) pa_nil)) (pe_one (pe_callF G_are_counts (hr.mono (by first | decide | omega)) (pa_cons (pv 1) (pa_cons (pe_callB (klen (K := K) rfl) (by rfl) T.n_len (by decide +kernel) (pa_cons (pv 1) pa_nil)) (pa_cons pe_non pa_nil)))))))) pa_nil))))),fun ds Qd h=>?_⟩
 obtain ⟨d,rfl,ok,q⟩ := h
 refine ws_seq<|ws_if<|et_or<|et_not<|et_B<|ew_callP<|ea_cons<|ew_var rfl<|ea_nil ⟨d,rfl,ok.plain,_,rfl,?_⟩
 cases hs : d.seq with
 | none =>
  rw [seq_isList hs ok]
  have e : bookB d = false := by unfold bookB; rw [hs]
  rw [e] at q
  exact iteT<|iteT<|ws_ret<|ew_bl q
 | some xs =>
  have e : bookB d = (decide (xs.length = 2) && xs.all halfB) := by unfold bookB; rw [hs]
  rw [e] at q
  obtain ⟨hl,ho⟩ := ok.seq hs
  rw [seq_isList' hs]
  refine iteF<|et_test<|ew_op<|ew_cb<|ea_cons<|ew_var rfl<|ea_nil<|opa_len hs<|ew_int<|op2_ne_int ⟨_,rfl,?_⟩
  by_cases c1 : xs.length = 2
  ·rw [decide_eq_true (show (xs.length : Int) = 2 by omega)]
   rw [decide_eq_true c1] at q
   refine iteF<|ws_next<|ws_ret<|ew_cb<|ea_cons<|ew_new<|en_lcB (f := halfB)<|ei_seq d hs<|ew_var rfl ⟨rfl,rfl,by omega,fun i y hy=>?_,ea_nil<|opa_all ?_⟩
   ·have oy := ho y (List.mem_of_getElem? hy)
    refine gv_name (by decide)<|ew_andV<|ew_callP<|ea_cons<|ew_var rfl<|ea_nil ⟨y,rfl,oy.plain,_,rfl,?_⟩
    cases hy2 : y.seq with
    | none =>
     rw [seq_isList hy2 oy]
     exact iteF ⟨rfl,by unfold halfB; rw [hy2]⟩
    | some ys =>
     rw [seq_isList' hy2]
     refine iteT<|ew_callP<|ea_cons<|ew_var rfl<|ea_cons<|ew_cb<|ea_cons<|ew_var rfl<|ea_nil<|opa_len hy2<|ea_cons<|ew_non<|ea_nil ⟨y,ys.length,none,rfl,oy,rfl,?_⟩
     unfold halfB
     rw [hy2]
   ·rw [all_map_id]; exact q
  ·rw [decide_eq_false (show ¬ (xs.length : Int) = 2 by omega)]
   rw [decide_eq_false c1] at q
   exact iteT<|ws_ret<|ew_bl q
end
end K65
namespace K65
open PySem PySem.Spec PyProof.Rows L2 DL SrtK
variable [TabL]
def sideS (x : Str) : Bool := decide (x ∈ (["person", "place"] : List Str))
def comerB (xs : List D) : Bool := match xs with
 | [.str x,n]=>sideS x && isNameD n
 | _=>false
section
variable {P : Program} {w : World} {K : PySem.W.Frag} {mg : Str -> Option Value} {base : Heap}
def T_is_comer : List D -> (D -> Prop) -> Prop := fun ds Q=>∃ xs : List D,ds = [.tup xs] /\ xs.length <= 1000 /\ (∀ x ∈ xs,Ok x) /\ (xs.length = 2 -> ∃ x,xs[0]? = some (.str x)) /\ Q (.bl (comerB xs))
abbrev N_is_comer : List Str := ["thing"]
theorem S_is_comer : FnScope N_is_comer ["thing"] (defScope s_is_comer) := ⟨rfl,rfl,rfl,by decide +kernel,rfl,by decide +kernel,by decide +kernel⟩
theorem ok_is_comer (T : TX P K mg) : FnB P w K mg base 2 "is_comer" ["thing"] (spP K T_is_comer) := by
 obtain ⟨fd,F⟩ := T.F_is_comer
 have G_is_name := ok_is_name (P := P) (w := w) (base := base) T
 refine fn_P (k := 1) F T.g_is_comer (fun _ _ _ _ _ _ us hl=>match us,hl with | [_],_=>rfl) S_is_comer (fun ds Qd h=>by first | (obtain ⟨rfl,_⟩ := h; rfl) | (obtain ⟨_,rfl,_⟩ := h; rfl) | (obtain ⟨_,_,rfl,_⟩ := h; rfl) | (obtain ⟨_,_,_,rfl,_⟩ := h; rfl) | (obtain ⟨_,_,_,_,rfl,_⟩ := h; rfl) | (obtain ⟨_,_,_,_,_,rfl,_⟩ := h; rfl) | (obtain ⟨_,_,_,_,_,_,rfl,_⟩ := h; rfl) | (obtain ⟨_,_,_,_,_,_,_,rfl,_⟩ := h; rfl) | (obtain ⟨_,_,_,_,_,_,_,_,rfl,_⟩ := h; rfl) | (obtain ⟨_,_,_,_,_,_,_,_,_,rfl,_⟩ := h; rfl) | (obtain ⟨_,_,_,_,_,_,_,_,_,_,rfl,_⟩ := h; rfl) | (obtain ⟨_,_,_,_,_,_,_,_,_,_,_,rfl,_⟩ := h; rfl)) fun cdv A outer s H E hr=>⟨_,(pss_one (ps_ret (L2.pe_and (pe_callB (kisi (K := K) rfl) (by rfl) T.n_isinstance (by decide +kernel) (pa_cons (pv 0) (pa_cons (pe_bltn (v := .ty "tuple") (by rfl) T.n_tuple (by decide +kernel) rfl) pa_nil))) (L2.pe_and (pe_cmpR op_eq (pe_callB (klen (K := K) rfl) (by rfl) T.n_len (by decide +kernel) (pa_cons (pv 0) pa_nil)) pe_int (nomark _)) (L2.pe_and (pe_cmpR (kin (K := K) rfl) (pe_ix (kix (K := K) rfl) (pv 0) pe_int (fun _ _=>rfl)) (pe_glob (v := .ref (He.ga K "SIDES")) (by rfl) T.c_SIDES rfl) (by rfl)) (pe_one (pe_callF G_is_name (hr.mono (by first | decide | omega)) (pa_cons (pe_ix (kix (K := K) rfl) (pv 0) pe_int (fun _ _=>rfl)) pa_nil)))))))),fun ds Qd h=>?_⟩
 obtain ⟨xs,rfl,hl,ho,h2,q⟩ := h
 refine ws_ret<|ew_andV<|ew_isi (by decide)<|ew_var rfl ⟨rfl,_,rfl,iteT<|ew_andV<|ew_op<|ew_cb<|ea_cons<|ew_var rfl<|ea_nil<|opa_len rfl<|ew_int<|op2_eq_int ⟨_,rfl,?_⟩⟩
 match xs,hl,ho,h2,q with
 | [],_,_,_,q=>exact iteF q
 | [x],_,_,_,q=>exact iteF (by cases x <;> exact q)
 | [x,n],_,ho,h2,q =>
  obtain ⟨y,hy⟩ := h2 rfl
  cases hy
  refine iteT<|ew_andV<|ew_op<|ew_op<|ew_var rfl<|ew_int<|op2_ix rfl rfl<|ew_c (d := .kt (strsD ["person", "place"])) (fun G=>.kt (T.v_SIDES G) (.cons (.str _) (.cons (.str _) .nil)))<|op2_inK (neg := false) ⟨_,rfl,?_⟩
  have q : Qd (.bl (sideS y && isNameD n)) := q
  show if sideS y = true then _ else _
  cases c : sideS y with
  | false=>rw [c] at q; exact iteF q
  | true =>
   rw [c] at q
   exact iteT<|ew_callP<|ea_cons<|ew_op<|ew_var rfl<|ew_int<|op2_ix rfl rfl<|ea_nil ⟨n,rfl,ho n (List.mem_cons_of_mem _ List.mem_cons_self),q⟩
 | x :: y :: z :: r,_,_,_,q =>
  have e : decide ((((x :: y :: z :: r).length : Nat) : Int) = 2) = false := decide_eq_false (by simp only [List.length_cons]; omega)
  rw [e]
  exact iteF (by cases x <;> exact q)
end
end K65
namespace K65
open PySem PySem.Spec PyProof.Rows L2 DL SrtK
variable [TabL]
theorem ok_ints {xs : List Int} (h : xs.length <= 1000) : Ok (intsT xs) := .tup (by rw [List.length_map]; exact h) fun d hd=>by
 obtain ⟨i,_,rfl⟩ := List.mem_map.mp hd
 exact .int i
theorem counts_ints {xs : List Int} {n : Int} {most : Option Int} (h : (xs.length : Int) = n) (h2 : ∀ x ∈ xs,0 <= x /\ (most.all fun m=>decide (x <= m)) = true) : countsD (intsT xs) n most = true := by
 show (decide (((xs.map D.int).length : Int) = n) && ((xs.map D.int).all isWholeD && (xs.map D.int).all (cntB most))) = true
 rw [List.length_map,decide_eq_true h,Bool.true_and,Bool.and_eq_true]
 refine ⟨List.all_eq_true.mpr fun d hd=>?_,List.all_eq_true.mpr fun d hd=>?_⟩
 ·obtain ⟨i,_,rfl⟩ := List.mem_map.mp hd
  rfl
 ·obtain ⟨i,hi,rfl⟩ := List.mem_map.mp hd
  obtain ⟨h3,h4⟩ := h2 i hi
  show (decide (0 <= i) && _) = true
  rw [decide_eq_true h3,h4]; rfl
structure RowOk (cs : List Int) (many : Nat) (tk rs : List Int) : Prop where
 len : tk.length = cs.length
 le : ∀ (i : Nat) (a b : Int),tk[i]? = some a -> cs[i]? = some b -> a <= b
 pos : ∀ a ∈ tk,0 <= a
 lenR : rs.length = many
 posR : ∀ a ∈ rs,0 <= a
def rowD (tk rs : List Int) : D := .tup [intsT tk,intsT rs]
section
variable {P : Program} {w : World} {K : PySem.W.Frag} {mg : Str -> Option Value} {base : Heap}
def T_is_row : List D -> (D -> Prop) -> Prop := fun ds Q=>∃ (cs tk rs : List Int) (many : Nat),ds = [intsT cs,rowD tk rs,.int (many : Nat)] /\ cs.length <= 3 /\ many <= 3 /\ RowOk cs many tk rs /\ Q (.bl true)
abbrev N_is_row : List Str := ["counts", "thing", "many", "one", "most"]
theorem S_is_row : FnScope N_is_row ["counts", "thing", "many"] (defScope s_is_row) := ⟨rfl,rfl,rfl,by decide +kernel,rfl,by decide +kernel,by decide +kernel⟩
theorem ok_is_row (T : TX P K mg) : FnB P w K mg base 3 "is_row" ["counts", "thing", "many"] (spP K T_is_row) := by
 obtain ⟨fd,F⟩ := T.F_is_row
 have G_is_list := ok_is_list (P := P) (w := w) (base := base) T
 have G_are_counts := ok_are_counts (P := P) (w := w) (base := base) T
 refine fn_P (k := 2) F T.g_is_row (fun _ _ _ _ _ _ us hl=>match us,hl with | [_,_,_],_=>rfl) S_is_row (fun ds Qd h=>by first | (obtain ⟨rfl,_⟩ := h; rfl) | (obtain ⟨_,rfl,_⟩ := h; rfl) | (obtain ⟨_,_,rfl,_⟩ := h; rfl) | (obtain ⟨_,_,_,rfl,_⟩ := h; rfl) | (obtain ⟨_,_,_,_,rfl,_⟩ := h; rfl) | (obtain ⟨_,_,_,_,_,rfl,_⟩ := h; rfl) | (obtain ⟨_,_,_,_,_,_,rfl,_⟩ := h; rfl) | (obtain ⟨_,_,_,_,_,_,_,rfl,_⟩ := h; rfl) | (obtain ⟨_,_,_,_,_,_,_,_,rfl,_⟩ := h; rfl) | (obtain ⟨_,_,_,_,_,_,_,_,_,rfl,_⟩ := h; rfl) | (obtain ⟨_,_,_,_,_,_,_,_,_,_,rfl,_⟩ := h; rfl) | (obtain ⟨_,_,_,_,_,_,_,_,_,_,_,rfl,_⟩ := h; rfl)) fun cdv A outer s H E hr=>⟨_,(pss_cons (ps_if (PW.pt (pw_or (pt_not (pt_val (pe_callF G_is_list (hr.mono (by first | decide | omega)) (pa_cons (pv 1) pa_nil)))) (pw_or (pt_cmpR op_ne (pe_callB (klen (K := K) rfl) (by rfl) T.n_len (by decide +kernel) (pa_cons (pv 1) pa_nil)) pe_int (nomark _)) (pw_or1 (pt_not (pt_val (pe_callF G_are_counts (hr.mono (by first | decide | omega)) (pa_cons (pe_ix (kix (K := K) rfl) (pv 1) pe_int (fun _ _=>rfl)) (pa_cons (pe_callB (klen (K := K) rfl) (by rfl) T.n_len (by decide +kernel) (pa_cons (pv 0) pa_nil)) (pa_cons pe_non pa_nil)))))))))) (pss_one (ps_ret pe_bl)) pss_nil)
   (pss_one (ps_ret (L2.pe_and (pe_callB (kall rfl (K := K) rfl) (by rfl) T.n_all (by decide +kernel) (pa_cons (pe_lc (own := [("one",3),("most",4)]) rfl S_is_row.nd (kzipA (K := K) rfl (by rfl) T.n_zip (pa_cons (pe_ix (kix (K := K) rfl) (pv 1) pe_int (fun _ _=>rfl)) (pa_cons (pv 0) pa_nil))) (blkOk_by (own := [("one",3),("most",4)]) (N := N_is_row) (sc := defScope s_is_row) (by decide +kernel)) (fun _ _ _ _ _=>(kgt (K := K) (n := 2) rfl rfl (pgs_cons (pg_name (i := 3) S_is_row.nd rfl (by first | exact .inl rfl | exact .inr rfl)) (pgs_cons (pg_name (i := 4) S_is_row.nd rfl (by first | exact .inl rfl | exact .inr rfl)) pgs_nil)))) (fun _ _ _ _ _=>pts_nil) (fun _ _ _ _ _=>(pe_cmpR op_le (pv 3) (pv 4) (nomark _)))) pa_nil)) (pe_one (pe_callF G_are_counts (hr.mono (by first | decide | omega)) (pa_cons (pe_ix (kix (K := K) rfl) (pv 1) pe_int (fun _ _=>rfl)) (pa_cons (pv 2) (pa_cons pe_non pa_nil))))))))),fun ds Qd h=>?_⟩
 obtain ⟨cs,tk,rs,many,rfl,hc,hm,hr,q⟩ := h
 have l1 := hr.len
 have l2 := hr.lenR
 have c1 : countsD (intsT tk) (cs.length : Nat) none = true := counts_ints (by rw [l1]) fun x hx=>⟨hr.pos x hx,rfl⟩
 have c2 : countsD (intsT rs) (many : Nat) none = true := counts_ints (by rw [l2]) fun x hx=>⟨hr.posR x hx,rfl⟩
 refine ws_seq<|ws_ifn (C := True) (et_or<|et_not<|et_B<|ew_callP<|ea_cons<|ew_var rfl<|ea_nil ⟨rowD tk rs,rfl,rfl,_,rfl,iteF<|et_or<|et_test<|ew_op<|ew_cb<|ea_cons<|ew_var rfl<|ea_nil<|opa_len rfl<|ew_int<|op2_ne_int ⟨_,rfl,iteF ?_⟩⟩) fun _=>?_
 ·refine et_not<|et_B<|ew_callP<|ea_cons<|ew_op<|ew_var rfl<|ew_int<|op2_ix (d := intsT tk) rfl rfl<|ea_cons<|ew_cb<|ea_cons<|ew_var rfl<|ea_nil<|opa_len (ds := cs.map D.int) rfl<|ea_cons<|ew_non<|ea_nil ⟨intsT tk,(cs.length : Nat),none,by rw [List.length_map]; rfl,ok_ints (by omega),_,rfl,?_⟩
  rw [c1]
  exact iteF ⟨rfl,trivial⟩
 ·refine ws_ret<|ew_andV<|ew_cb<|ea_cons<|ew_new<|en_lcB (f := fun _=>true)<|ei_zip<|ea_cons<|ew_op<|ew_var rfl<|ew_int<|op2_ix (d := intsT tk) rfl rfl<|ea_cons<|ew_var rfl<|ea_nil ⟨tk.map D.int,cs.map D.int,.inr rfl,rfl,?_,fun i y hy=>?_,ea_nil<|opa_all ⟨_,rfl,?_⟩⟩
  ·rw [zipD_len,List.length_map,List.length_map]; omega
  ·obtain ⟨x,z,hx,hz,rfl⟩ := zipD_at hy
   rw [List.getElem?_map] at hx hz
   obtain ⟨a,ha,rfl⟩ := Option.map_eq_some_iff.mp hx
   obtain ⟨b,hb,rfl⟩ := Option.map_eq_some_iff.mp hz
   refine gv_tup rfl<|gvs_cons<|gv_name (by decide)<|gvs_cons<|gv_name (by decide)<|gvs_nil<|ew_op<|ew_var rfl<|ew_var rfl<|op2_cmp ⟨rfl,?_⟩
   rw [decide_eq_true (hr.le i a b ha hb)]
  ·rw [all_map_id]
   have e : ((zipD (tk.map D.int) (cs.map D.int)).all fun _=>true) = true := by simp
   rw [e]
   refine iteT<|ew_callP<|ea_cons<|ew_op<|ew_var rfl<|ew_int<|op2_ix (d := intsT rs) rfl rfl<|ea_cons<|ew_var rfl<|ea_cons<|ew_non<|ea_nil ⟨intsT rs,(many : Nat),none,rfl,ok_ints (by omega),?_⟩
   rw [c2]; exact q
end
end K65
namespace K65
open PySem PySem.Spec PyProof.Rows L2 DL SrtK
variable [TabL]
abbrev RowT := List Int × List Int × List Int
def keyC (cs : List Int) : List Key := cs.map Sum.inl
def pairC (r : RowT) : List Key × D := (keyC r.1,rowD r.2.1 r.2.2)
def rowsD (rows : List RowT) : D := .dt (rows.map pairC)
theorem keyC_kD (cs : List Int) : D.tup ((keyC cs).map kD) = intsT cs := by
 unfold keyC intsT
 rw [List.map_map]; rfl
structure RowsOk (own other depth : Nat) (rows : List RowT) : Prop where
 keys : rows.map (·.1) = allC depth own
 ok : ∀ r ∈ rows,RowOk r.1 other r.2.1 r.2.2
theorem allC_nodup (most : Nat) : ∀ n,(allC most n).Nodup
 | 0=>by show [([] : List Int)].Nodup; simp
 | n + 1=>by
  show List.Pairwise _ _
  unfold allC
  rw [List.pairwise_flatMap]
  refine ⟨fun row _=>?_,(allC_nodup most n).imp fun {a b} hab x hx y hy e=>?_⟩
  ·rw [List.pairwise_map]
   unfold nums
   rw [List.pairwise_map]
   refine List.nodup_range.imp fun {a b} hab e=>hab ?_
   have := (List.append_inj' e rfl).2
   have : Int.ofNat a = Int.ofNat b := by simpa using this
   exact Int.ofNat.inj this
  ·obtain ⟨i,_,rfl⟩ := List.mem_map.mp hx
   obtain ⟨j,_,rfl⟩ := List.mem_map.mp hy
   exact hab (List.append_inj' e rfl).1
theorem find_key {α β : Type} [DecidableEq α] : ∀ {xs : List (α × β)} {k : α} {v : β},(xs.map (·.1)).Nodup -> (k,v) ∈ xs -> xs.find? (fun p=>decide (p.1 = k)) = some (k,v)
 | [],_,_,_,h=>by cases h
 | (k',v') :: xs,k,v,nd,h=>by
  rw [List.map_cons,List.nodup_cons] at nd
  rcases List.mem_cons.mp h with e | h
  ·cases e
   rw [List.find?_cons_of_pos (by simp)]
  ·have ne : k' ≠ k := fun z=>nd.1 (by rw [z]; exact List.mem_map.mpr ⟨(k,v),h,rfl⟩)
   rw [List.find?_cons_of_neg (by simpa using ne)]
   exact find_key nd.2 h
theorem dget_map {α β κ : Type} [DecidableEq κ] [DecidableEq α] (g : α -> κ) (hg : ∀ a b,g a = g b -> a = b) (h : β -> D) : ∀ (xs : List (α × β)) (k : α),dget (xs.map fun p=>(g p.1,h p.2)) (g k) = (xs.find? fun p=>decide (p.1 = k)).map fun p=>h p.2
 | [],_=>rfl
 | (a,b) :: xs,k=>by
  have ih := dget_map g hg h xs k
  unfold dget at ih ⊢
  rw [List.map_cons]
  by_cases e : a = k
  ·subst e
   rw [List.find?_cons_of_pos (by simp),List.find?_cons_of_pos (by simp)]
   rfl
  ·rw [List.find?_cons_of_neg (by simpa using fun z=>e (hg _ _ z)),List.find?_cons_of_neg (by simpa using e)]
   exact ih
theorem keyC_inj (a b : List Int) (h : keyC a = keyC b) : a = b := by
 unfold keyC at h
 exact (List.map_inj_right (fun x y z=>Sum.inl.inj z)).mp h
def rowAt (rows : List RowT) (cs : List Int) : Option (List Int × List Int) := (rows.find? fun p=>decide (p.1 = cs)).map (·.2)
theorem dget_rows (rows : List RowT) (cs : List Int) : dget (rows.map pairC) (keyC cs) = (rowAt rows cs).map fun r=>rowD r.1 r.2 := by
 have := dget_map keyC keyC_inj (fun r : List Int × List Int=>rowD r.1 r.2) rows cs
 unfold rowAt
 rw [Option.map_map]
 exact this
theorem take_snoc {α : Type} {l : List α} {i : Nat} {x : α} (h : l[i]? = some x) : l.take (i + 1) = l.take i ++ [x] := by
 rw [List.take_succ,h]; rfl
theorem not_take {α : Type} {ys : List α} {i : Nat} {y : α} (nd : ys.Nodup) (h : ys[i]? = some y) : y ∉ ys.take i := fun z=>by
 obtain ⟨j,hj⟩ := List.mem_iff_getElem?.mp z
 rw [List.getElem?_take] at hj
 split at hj
 ·have hlt := (List.getElem?_eq_some_iff.mp h).1
  have := (List.getElem?_inj hlt nd).mp (h.trans hj.symm); omega
 ·cases hj
def ShU (s : Sl) : Prop := s = .un \/ ∃ d,s = .sh d
section
variable {P : Program} {w : World} {K : PySem.W.Frag} {mg : Str -> Option Value} {base : Heap}
def T_are_rows : List D -> (D -> Prop) -> Prop := fun ds Q=>∃ (rows : List RowT) (own other depth : Nat),ds = [rowsD rows,.int (own : Nat),.int (other : Nat),.int (depth : Nat)] /\ own <= 3 /\ other <= 3 /\ depth <= 3 /\ RowsOk own other depth rows /\ Q (.bl true)
abbrev N_are_rows : List Str := ["thing", "own", "other", "depth", "counts"]
theorem S_are_rows : FnScope N_are_rows ["thing", "own", "other", "depth"] (defScope s_are_rows) := ⟨rfl,rfl,rfl,by decide +kernel,rfl,by decide +kernel,by decide +kernel⟩
theorem ok_are_rows (T : TX P K mg) : FnB P w K mg base 4 "are_rows" ["thing", "own", "other", "depth"] (spP K T_are_rows) := by
 obtain ⟨fd,F⟩ := T.F_are_rows
 have G_all_counts := ok_all_counts (P := P) (w := w) (base := base) T
 have G_are_counts := ok_are_counts (P := P) (w := w) (base := base) T
 have G_is_row := ok_is_row (P := P) (w := w) (base := base) T
 refine fn_P (k := 3) F T.g_are_rows (fun _ _ _ _ _ _ us hl=>match us,hl with | [_,_,_,_],_=>rfl) S_are_rows (fun ds Qd h=>by first | (obtain ⟨rfl,_⟩ := h; rfl) | (obtain ⟨_,rfl,_⟩ := h; rfl) | (obtain ⟨_,_,rfl,_⟩ := h; rfl) | (obtain ⟨_,_,_,rfl,_⟩ := h; rfl) | (obtain ⟨_,_,_,_,rfl,_⟩ := h; rfl) | (obtain ⟨_,_,_,_,_,rfl,_⟩ := h; rfl) | (obtain ⟨_,_,_,_,_,_,rfl,_⟩ := h; rfl) | (obtain ⟨_,_,_,_,_,_,_,rfl,_⟩ := h; rfl) | (obtain ⟨_,_,_,_,_,_,_,_,rfl,_⟩ := h; rfl) | (obtain ⟨_,_,_,_,_,_,_,_,_,rfl,_⟩ := h; rfl) | (obtain ⟨_,_,_,_,_,_,_,_,_,_,rfl,_⟩ := h; rfl) | (obtain ⟨_,_,_,_,_,_,_,_,_,_,_,rfl,_⟩ := h; rfl)) fun cdv A outer s H E hr=>⟨_,(pss_cons (ps_if (PW.pt (pw_or (pt_not (pt_val (pe_callB SG.cisiT (by rfl) T.n_isinstance (by decide +kernel) (pa_cons (pv 0) (pa_cons (pe_bltn (v := .ty "dict") (by rfl) T.n_dict (by decide +kernel) rfl) pa_nil))))) (pw_or1 (pt_cmpR op_ne (pe_callB SG.clenT (by rfl) T.n_len (by decide +kernel) (pa_cons (pv 0) pa_nil)) (pe_callB (klen (K := K) rfl) (by rfl) T.n_len (by decide +kernel) (pa_cons (pe_callF G_all_counts (hr.mono (by first | decide | omega)) (pa_cons (pv 1) (pa_cons (pv 3) pa_nil))) pa_nil)) (nomark _))))) (pss_one (ps_ret pe_bl)) pss_nil)
   (pss_cons (ps_or (ps_lock (ps_for PassesOwn.never rfl (pi_keys (pv 0)) (pg_name (i := 4) S_are_rows.nd rfl (by first | exact .inl rfl | exact .inr rfl))
   (pss_one (ps_if (PW.pt (pw_or (pt_not (pt_val (pe_callB (kisi (K := K) rfl) (by rfl) T.n_isinstance (by decide +kernel) (pa_cons (pv 4) (pa_cons (pe_bltn (v := .ty "tuple") (by rfl) T.n_tuple (by decide +kernel) rfl) pa_nil))))) (pw_or1 (pt_not (pt_val (pe_callF G_are_counts (hr.mono (by first | decide | omega)) (pa_cons (pv 4) (pa_cons (pv 1) (pa_cons (pv 3) pa_nil))))))))) (pss_one (ps_ret pe_bl)) pss_nil)))) (ps_for PassesOwn.never rfl (pi_keys (pv 0)) (pg_name (i := 4) S_are_rows.nd rfl (by first | exact .inl rfl | exact .inr rfl))
   (pss_one (ps_if (PW.pt (pw_or (pt_not (pt_val (pe_callB (kisi (K := K) rfl) (by rfl) T.n_isinstance (by decide +kernel) (pa_cons (pv 4) (pa_cons (pe_bltn (v := .ty "tuple") (by rfl) T.n_tuple (by decide +kernel) rfl) pa_nil))))) (pw_or1 (pt_not (pt_val (pe_callF G_are_counts (hr.mono (by first | decide | omega)) (pa_cons (pv 4) (pa_cons (pv 1) (pa_cons (pv 3) pa_nil))))))))) (pss_one (ps_ret pe_bl)) pss_nil))))
   (pss_one (ps_ret (pe_callB (kall rfl (K := K) rfl) (by rfl) T.n_all (by decide +kernel) (pa_cons (pe_either (pe_lock (pe_lc (own := [("counts",4)]) rfl S_are_rows.nd (pi_keys (pv 0)) (blkOk_by (own := [("counts",4)]) (N := N_are_rows) (sc := defScope s_are_rows) (by decide +kernel)) (fun _ _ _ _ _=>(pg_name (i := 4) S_are_rows.nd rfl (by first | exact .inl rfl | exact .inr rfl))) (fun _ _ _ _ _=>pts_nil) (fun _ _ _ _ _=>(pe_callF G_is_row (hr.mono (by first | decide | omega)) (pa_cons (pv 4) (pa_cons (pe_dget (hu_of hr) (pv 0) (pv 4) (fun _ _=>rfl)) (pa_cons (pv 2) pa_nil))))))) (pe_lc (own := [("counts",4)]) rfl S_are_rows.nd (pi_keys (pv 0)) (blkOk_by (own := [("counts",4)]) (N := N_are_rows) (sc := defScope s_are_rows) (by decide +kernel)) (fun _ _ _ _ _=>(pg_name (i := 4) S_are_rows.nd rfl (by first | exact .inl rfl | exact .inr rfl))) (fun _ _ _ _ _=>pts_nil) (fun _ _ _ _ _=>(pe_callF G_is_row (hr.mono (by first | decide | omega)) (pa_cons (pv 4) (pa_cons (pe_dget (hu_of hr) (pv 0) (pv 4) (fun _ _=>rfl)) (pa_cons (pv 2) pa_nil))))))) pa_nil)))))),fun ds Qd h=>?_⟩
 obtain ⟨rows,own,other,depth,rfl,h1,h2,h3,hr,q⟩ := h
 have hk := hr.keys
 have hlen : rows.length = (allC depth own).length := by rw [<- hk,List.length_map]
 have hl64 : rows.length <= 64 := by
  rw [hlen,allC_len]
  exact Nat.le_trans (Nat.pow_le_pow_right (by omega) h1) (Nat.pow_le_pow_left (by omega : depth + 1 <= 4) 3)
 have hmem : ∀ r ∈ rows,r.1.length = own /\ ∀ x ∈ r.1,0 <= x /\ x <= (depth : Int) := fun r h=>allC_row depth (hk ▸ List.mem_map_of_mem (f := fun r : RowT=>r.1) h)
 have hcnt : ∀ r ∈ rows,countsD (intsT r.1) (own : Nat) (some (depth : Nat)) = true := fun r h=>counts_ints (by rw [(hmem r h).1]) fun x hx=>⟨((hmem r h).2 x hx).1,decide_eq_true ((hmem r h).2 x hx).2⟩
 have ek : ((rows.map pairC).map fun p : List Key × D=>D.tup (p.1.map kD)) = rows.map fun r=>intsT r.1 := by
  rw [List.map_map]
  exact List.map_congr_left fun r _=>keyC_kD r.1
 refine ws_seq<|ws_ifn (C := True) (et_or<|et_not<|et_B<|ew_isiDT (by decide)<|ew_var rfl ⟨⟨_,rfl⟩,_,rfl,iteF<|et_test<|ew_op<|ew_cb<|ea_cons<|ew_var rfl<|ea_nil<|opa_lenDT ?_⟩) fun _=>?_
 ·refine ew_cb<|ea_cons<|ew_callP<|ea_cons<|ew_var rfl<|ea_cons<|ew_var rfl<|ea_nil ⟨own,depth,rfl,h1,h3,ea_nil<|opa_len rfl<|op2_ne_int ⟨_,rfl,?_⟩⟩
  rw [decide_eq_true (show _ = _ by rw [List.length_map,List.length_map,hlen])]
  exact iteF ⟨rfl,trivial⟩
 refine ws_seq<|ws_forW (i := 0) (d0 := rowsD rows) rfl rfl wk_keysT (fun _ ρ=>∃ s4 : Sl,ShU s4 /\ ρ = [.sh (rowsD rows),.sh (.int (own : Nat)),.sh (.int (other : Nat)),.sh (.int (depth : Nat)),s4]) ⟨_,.inl rfl,rfl⟩ ?_ ?_
 ·rintro i d ρ' hd ⟨s4,_,rfl⟩
  rw [ek,List.getElem?_map] at hd
  obtain ⟨r,hr0,rfl⟩ := Option.map_eq_some_iff.mp hd
  have hm := List.mem_of_getElem? hr0
  refine gw_name<|ws_ifn (C := True) (et_or<|et_not<|et_B<|ew_isi (by decide)<|ew_var rfl ⟨rfl,_,rfl,iteF<|et_not<|et_B<|ew_callP<|ea_cons<|ew_var rfl<|ea_cons<|ew_var rfl<|ea_cons<|ew_var rfl<|ea_nil ⟨intsT r.1,(own : Nat),some (depth : Nat),rfl,ok_ints (by have := (hmem r hm).1; omega),?_⟩⟩) fun _=>⟨_,.inr ⟨_,rfl⟩,rfl⟩
  rw [hcnt r hm]
  exact ⟨_,rfl,iteF ⟨rfl,trivial⟩⟩
 ·rintro ρ' ⟨s4,h4,rfl⟩
  have hf : ownFree [Sl.sh (rowsD rows),.sh (.int (own : Nat)),.sh (.int (other : Nat)),.sh (.int (depth : Nat)),s4] [4] = true := by
   rcases h4 with rfl | ⟨d,rfl⟩ <;> rfl
  have hw : WalkD K (iKeys (tVar 0)) 0 (rowsD rows) (rows.map fun r=>intsT r.1) := by rw [<- ek]; exact wk_keysT
  refine ws_ret<|ew_cb<|ea_cons<|ew_new<|en_lcDMt (i0 := 0) (d0 := rowsD rows) (fun r : RowT=>intsT r.1) rows (fun _=>.bl true) rfl rfl hw hf (by omega) (fun r hm=>?_) (ea_nil ?_)
  ·refine gv_name (by decide)<|ew_callP<|ea_cons<|ew_var rfl<|ea_cons<|ew_dgetVT (i := 0) rfl<|ew_var rfl ⟨keyC r.1,_,rowD r.2.1 r.2.2,(keyC_kD r.1).symm,rfl,?_,ea_cons<|ew_var rfl<|ea_nil ⟨r.1,r.2.1,r.2.2,other,rfl,by have := (hmem r hm).1; omega,h2,hr.ok r hm,rfl,rfl⟩⟩
   rw [dget_rows]
   unfold rowAt
   rw [find_key (xs := rows) (k := r.1) (v := r.2) (by rw [hk]; exact allC_nodup _ _) hm]
   rfl
  ·have e : (rows.map fun _=>D.bl true) = (rows.map fun _=>true).map D.bl := by rw [List.map_map]; rfl
   rw [e]
   refine opa_all ?_
   rw [List.all_map]
   have e : (rows.all (id ∘ fun _=>true)) = true := by simp
   rw [e]
   exact q
end
end K65
namespace K65
open PySem PySem.Spec PyProof.Rows L2 DL SrtK
variable [TabL]
abbrev ComerT := (Str × Str) × List RowT
def keyP (k : Str × Str) : List Key := [.inr k.1,.inr k.2]
def pairP (c : ComerT) : List Key × D := (keyP c.1,rowsD c.2)
theorem keyP_inj (a b : Str × Str) (h : keyP a = keyP b) : a = b := by
 unfold keyP at h
 simp only [List.cons.injEq,Sum.inr.injEq,and_true] at h
 exact Prod.ext h.1 h.2
structure TB where
 waits : List Str
 frees : List Str
 depth : Nat
 cs : List ComerT
def TB.ownN (t : TB) (s : Str) : Nat := if s = "person" then t.frees.length else t.waits.length
def TB.otherN (t : TB) (s : Str) : Nat := if s = "person" then t.waits.length else t.frees.length
structure TB.Ok (t : TB) : Prop where
 w1 : 1 <= t.waits.length /\ t.waits.length <= 3
 f1 : 1 <= t.frees.length /\ t.frees.length <= 3
 wn : t.waits.Nodup
 fn : t.frees.Nodup
 wi : ∀ x ∈ t.waits,isNameS x = true
 fi : ∀ x ∈ t.frees,isNameS x = true
 d1 : 1 <= t.depth /\ t.depth <= 3
 len : t.cs.length <= 4
 nd : (t.cs.map (·.1)).Nodup
 side : ∀ c ∈ t.cs,sideS c.1.1 = true
 name : ∀ c ∈ t.cs,isNameS c.1.2 = true
 rows : ∀ c ∈ t.cs,RowsOk (t.ownN c.1.1) (t.otherN c.1.1) t.depth c.2
def TB.rowsAt (t : TB) (k : Str × Str) : Option (List RowT) := (t.cs.find? fun p=>decide (p.1 = k)).map (·.2)
theorem dget_comers (t : TB) (k : Str × Str) : dget (t.cs.map pairP) (keyP k) = (t.rowsAt k).map rowsD := by
 have := dget_map keyP keyP_inj rowsD t.cs k
 unfold TB.rowsAt
 rw [Option.map_map]
 exact this
theorem name_len {x : Str} (h : isNameS x = true) : x.length <= 8 := by
 unfold isNameS at h
 rw [Bool.and_eq_true,Bool.and_eq_true] at h
 have := of_decide_eq_true h.2.1
 omega
theorem side_len {x : Str} (h : sideS x = true) : x.length <= 6 := by
 have := of_decide_eq_true h
 rcases List.mem_cons.mp this with rfl | this
 ·decide
 ·rw [List.mem_singleton.mp this]; decide
theorem TB.Ok.own3 {t : TB} (o : t.Ok) (s : Str) : t.ownN s <= 3 /\ t.otherN s <= 3 := by
 have := o.w1
 have := o.f1
 unfold TB.ownN TB.otherN
 split <;> exact ⟨by omega,by omega⟩
def comerD (k : Str × Str) : D := .tup [.str k.1,.str k.2]
theorem zip_map {f : Int -> Int -> Int} {g : D -> D} (hg : ∀ i j,g (.tup [.int i,.int j]) = .int (f i j)) : ∀ xs ys : List Int,(zipD (xs.map D.int) (ys.map D.int)).map g = (xs.zipWith f ys).map D.int
 | [],_=>rfl
 | _ :: _,[]=>rfl
 | x :: xs,y :: ys=>by
  have ih := zip_map hg xs ys
  unfold zipD at ih ⊢
  rw [List.map_cons,List.map_cons,List.zipWith_cons_cons,List.zipWith_cons_cons,List.map_cons,List.map_cons,hg,ih]
def fAdd : D -> D
 | .tup [.int i,.int j]=>.int (i + j)
 | _=>.non
def fSub : D -> D
 | .tup [.int i,.int j]=>.int (i - j)
 | _=>.non
theorem zip_ints {xs ys : List Int} {i : Nat} {d : D} (h : (zipD (xs.map D.int) (ys.map D.int))[i]? = some d) : ∃ a b : Int,xs[i]? = some a /\ ys[i]? = some b /\ d = .tup [.int a,.int b] := by
 obtain ⟨x,y,h1,h2,rfl⟩ := zipD_at h
 rw [List.getElem?_map] at h1 h2
 obtain ⟨a,ha,rfl⟩ := Option.map_eq_some_iff.mp h1
 obtain ⟨b,hb,rfl⟩ := Option.map_eq_some_iff.mp h2
 exact ⟨a,b,ha,hb,rfl⟩
section
variable {P : Program} {w : World} {K : PySem.W.Frag} {mg : Str -> Option Value} {base : Heap}
def T_are_comers : List D -> (D -> Prop) -> Prop := fun ds Q=>∃ (t : TB) (a b : D),t.Ok /\ ds = [.dt (t.cs.map pairP),a,b,.int (t.depth : Nat)] /\ a.seq = some (strsD t.waits) /\ b.seq = some (strsD t.frees) /\ Q (.bl true)
abbrev N_are_comers : List Str := ["thing", "waits", "frees", "depth", "comer", "sizes"]
theorem S_are_comers : FnScope N_are_comers ["thing", "waits", "frees", "depth"] (defScope s_are_comers) := ⟨rfl,rfl,rfl,by decide +kernel,rfl,by decide +kernel,by decide +kernel⟩
theorem ok_are_comers (T : TX P K mg) : FnB P w K mg base 5 "are_comers" ["thing", "waits", "frees", "depth"] (spP K T_are_comers) := by
 obtain ⟨fd,F⟩ := T.F_are_comers
 have G_is_comer := ok_is_comer (P := P) (w := w) (base := base) T
 have G_are_rows := ok_are_rows (P := P) (w := w) (base := base) T
 refine fn_P (k := 4) F T.g_are_comers (fun _ _ _ _ _ _ us hl=>match us,hl with | [_,_,_,_],_=>rfl) S_are_comers (fun ds Qd h=>by first | (obtain ⟨rfl,_⟩ := h; rfl) | (obtain ⟨_,rfl,_⟩ := h; rfl) | (obtain ⟨_,_,rfl,_⟩ := h; rfl) | (obtain ⟨_,_,_,rfl,_⟩ := h; rfl) | (obtain ⟨_,_,_,_,rfl,_⟩ := h; rfl) | (obtain ⟨_,_,_,_,_,rfl,_⟩ := h; rfl) | (obtain ⟨_,_,_,_,_,_,rfl,_⟩ := h; rfl) | (obtain ⟨_,_,_,_,_,_,_,rfl,_⟩ := h; rfl) | (obtain ⟨_,_,_,_,_,_,_,_,rfl,_⟩ := h; rfl) | (obtain ⟨_,_,_,_,_,_,_,_,_,rfl,_⟩ := h; rfl) | (obtain ⟨_,_,_,_,_,_,_,_,_,_,rfl,_⟩ := h; rfl) | (obtain ⟨_,_,_,_,_,_,_,_,_,_,_,rfl,_⟩ := h; rfl)) fun cdv A outer s H E hr=>⟨_,(pss_cons (ps_if (pt_not (pt_val (pe_callB SG.cisiT (by rfl) T.n_isinstance (by decide +kernel) (pa_cons (pv 0) (pa_cons (pe_bltn (v := .ty "dict") (by rfl) T.n_dict (by decide +kernel) rfl) pa_nil))))) (pss_one (ps_ret pe_bl)) pss_nil)
   (pss_cons (ps_or (ps_lock (ps_for PassesOwn.never rfl (pi_keys (pv 0)) (pg_name (i := 4) S_are_comers.nd rfl (by first | exact .inl rfl | exact .inr rfl))
   (pss_cons (ps_if (pt_not (pt_val (pe_callF G_is_comer (hr.mono (by first | decide | omega)) (pa_cons (pv 4) pa_nil)))) (pss_one (ps_ret pe_bl)) pss_nil)
   (pss_cons (ps_set (i := 5) S_are_comers.nd rfl (by first | exact .inl rfl | exact .inr rfl) (pe_ifExp (pt_cmpR op_eq (pe_ix (kix (K := K) rfl) (pv 4) pe_int (fun _ _=>rfl)) pe_str (nomark _)) (pe_tup (pa_cons (pe_callB (klen (K := K) rfl) (by rfl) T.n_len (by decide +kernel) (pa_cons (pv 2) pa_nil)) (pa_cons (pe_callB (klen (K := K) rfl) (by rfl) T.n_len (by decide +kernel) (pa_cons (pv 1) pa_nil)) pa_nil))) (pe_tup (pa_cons (pe_callB (klen (K := K) rfl) (by rfl) T.n_len (by decide +kernel) (pa_cons (pv 1) pa_nil)) (pa_cons (pe_callB (klen (K := K) rfl) (by rfl) T.n_len (by decide +kernel) (pa_cons (pv 2) pa_nil)) pa_nil)))))
   (pss_one (ps_if (pt_not (pt_val (pe_callF G_are_rows (hr.mono (by first | decide | omega)) (pa_cons (pe_dget (hu_of hr) (pv 0) (pv 4) (fun _ _=>rfl)) (pa_cons (pe_ix (kix (K := K) rfl) (pv 5) pe_int (fun _ _=>rfl)) (pa_cons (pe_ix (kix (K := K) rfl) (pv 5) pe_int (fun _ _=>rfl)) (pa_cons (pv 3) pa_nil))))))) (pss_one (ps_ret pe_bl)) pss_nil)))))) (ps_for PassesOwn.never rfl (pi_keys (pv 0)) (pg_name (i := 4) S_are_comers.nd rfl (by first | exact .inl rfl | exact .inr rfl))
   (pss_cons (ps_if (pt_not (pt_val (pe_callF G_is_comer (hr.mono (by first | decide | omega)) (pa_cons (pv 4) pa_nil)))) (pss_one (ps_ret pe_bl)) pss_nil)
   (pss_cons (ps_set (i := 5) S_are_comers.nd rfl (by first | exact .inl rfl | exact .inr rfl) (pe_ifExp (pt_cmpR op_eq (pe_ix (kix (K := K) rfl) (pv 4) pe_int (fun _ _=>rfl)) pe_str (nomark _)) (pe_tup (pa_cons (pe_callB (klen (K := K) rfl) (by rfl) T.n_len (by decide +kernel) (pa_cons (pv 2) pa_nil)) (pa_cons (pe_callB (klen (K := K) rfl) (by rfl) T.n_len (by decide +kernel) (pa_cons (pv 1) pa_nil)) pa_nil))) (pe_tup (pa_cons (pe_callB (klen (K := K) rfl) (by rfl) T.n_len (by decide +kernel) (pa_cons (pv 1) pa_nil)) (pa_cons (pe_callB (klen (K := K) rfl) (by rfl) T.n_len (by decide +kernel) (pa_cons (pv 2) pa_nil)) pa_nil)))))
   (pss_one (ps_if (pt_not (pt_val (pe_callF G_are_rows (hr.mono (by first | decide | omega)) (pa_cons (pe_dget (hu_of hr) (pv 0) (pv 4) (fun _ _=>rfl)) (pa_cons (pe_ix (kix (K := K) rfl) (pv 5) pe_int (fun _ _=>rfl)) (pa_cons (pe_ix (kix (K := K) rfl) (pv 5) pe_int (fun _ _=>rfl)) (pa_cons (pv 3) pa_nil))))))) (pss_one (ps_ret pe_bl)) pss_nil))))))
   (pss_one (ps_ret pe_bl)))),fun ds Qd h=>?_⟩
 obtain ⟨t,a,b,o,rfl,ha,hb,q⟩ := h
 have ek : ((t.cs.map pairP).map fun p : List Key × D=>D.tup (p.1.map kD)) = t.cs.map fun c=>comerD c.1 := by rw [List.map_map]; rfl
 have la : (strsD t.waits).length = t.waits.length := by unfold strsD; rw [List.length_map]
 have lb : (strsD t.frees).length = t.frees.length := by unfold strsD; rw [List.length_map]
 refine ws_seq<|ws_ifn (C := True) (et_not<|et_B<|ew_isiDT (by decide)<|ew_var rfl ⟨⟨_,rfl⟩,_,rfl,iteF ⟨rfl,trivial⟩⟩) fun _=>?_
 refine ws_seq<|ws_forW (i := 0) (d0 := .dt (t.cs.map pairP)) rfl rfl wk_keysT (fun _ ρ=>∃ s4 s5 : Sl,ρ = [.sh (.dt (t.cs.map pairP)),.sh a,.sh b,.sh (.int (t.depth : Nat)),s4,s5]) ⟨_,_,rfl⟩ ?_ ?_
 ·rintro i d ρ' hd ⟨s4,s5,rfl⟩
  rw [ek,List.getElem?_map] at hd
  obtain ⟨c,hc,rfl⟩ := Option.map_eq_some_iff.mp hd
  have hm := List.mem_of_getElem? hc
  have hs := o.side c hm
  have hn := o.name c hm
  have h3 := o.own3 c.1.1
  have hb1 : comerB [.str c.1.1,.str c.1.2] = true := by
   show (sideS c.1.1 && isNameS c.1.2) = true
   rw [hs,hn]; rfl
  refine gw_name<|ws_seq<|ws_ifn (C := True) (et_not<|et_B<|ew_callP<|ea_cons<|ew_var rfl<|ea_nil ⟨[.str c.1.1,.str c.1.2],rfl,by show 2 <= 1000; decide,mem2 (.str (by have := side_len hs; omega)) (.str (by have := name_len hn; omega)),fun _=>⟨_,rfl⟩,?_⟩) fun _=>?_
  ·rw [hb1]
   exact ⟨_,rfl,iteF ⟨rfl,trivial⟩⟩
  refine ws_seq<|ws_asg<|ew_weak (Q₁ := fun d ρ1=>d = .tup [.int (t.ownN c.1.1 : Nat),.int (t.otherN c.1.1 : Nat)] /\ ρ1 = [.sh (.dt (t.cs.map pairP)),.sh a,.sh b,.sh (.int (t.depth : Nat)),.sh (comerD c.1),s5]) ?_ ?_
  ·refine ew_if<|et_test<|ew_op<|ew_op<|ew_var rfl<|ew_int<|op2_ix (d := .str c.1.1) rfl rfl<|ew_str<|op2_eq_str ⟨_,rfl,?_⟩
   by_cases e : c.1.1 = ("person" : Str)
   ·rw [decide_eq_true e]
    refine iteT<|ew_tup<|ea_cons<|ew_cb<|ea_cons<|ew_var rfl<|ea_nil<|opa_len hb<|ea_cons<|ew_cb<|ea_cons<|ew_var rfl<|ea_nil<|opa_len ha<|ea_nil ⟨by show 2 <= 100000; decide,?_,rfl⟩
    unfold TB.ownN TB.otherN
    rw [if_pos e,if_pos e,la,lb]
   ·rw [decide_eq_false e]
    refine iteF<|ew_tup<|ea_cons<|ew_cb<|ea_cons<|ew_var rfl<|ea_nil<|opa_len ha<|ea_cons<|ew_cb<|ea_cons<|ew_var rfl<|ea_nil<|opa_len hb<|ea_nil ⟨by show 2 <= 100000; decide,?_,rfl⟩
    unfold TB.ownN TB.otherN
    rw [if_neg e,if_neg e,la,lb]
  ·rintro d ρ1 ⟨rfl,rfl⟩
   have hg : dget (t.cs.map pairP) (keyP c.1) = some (rowsD c.2) := by
    rw [dget_comers]
    unfold TB.rowsAt
    rw [find_key (xs := t.cs) (k := c.1) (v := c.2) o.nd hm]; rfl
   refine gw_name<|ws_ifn (C := True) (et_not<|et_B<|ew_callP<|ea_cons<|ew_dgetVT (i := 0) rfl<|ew_var rfl ⟨keyP c.1,_,rowsD c.2,rfl,rfl,hg,ea_cons<|ew_op<|ew_var rfl<|ew_int<|op2_ix rfl rfl<|ea_cons<|ew_op<|ew_var rfl<|ew_int<|op2_ix rfl rfl<|ea_cons<|ew_var rfl<|ea_nil ⟨c.2,t.ownN c.1.1,t.otherN c.1.1,t.depth,rfl,h3.1,h3.2,o.d1.2,o.rows c hm,_,rfl,iteF ⟨rfl,trivial⟩⟩⟩) fun _=>⟨_,_,rfl⟩
 ·rintro ρ' ⟨s4,s5,rfl⟩
  exact ws_ret<|ew_bl q
def T_added : List D -> (D -> Prop) -> Prop := fun ds Q=>∃ xs ys : List Int,ds = [intsT xs,intsT ys] /\ xs.length <= 1000 /\ Q (intsT (xs.zipWith (· + ·) ys))
abbrev N_added : List Str := ["one", "other", "first", "second"]
theorem S_added : FnScope N_added ["one", "other"] (defScope s_added) := ⟨rfl,rfl,rfl,by decide +kernel,rfl,by decide +kernel,by decide +kernel⟩
theorem ok_added (T : TX P K mg) : FnB P w K mg base 1 "added" ["one", "other"] (spP K T_added) := by
 obtain ⟨fd,F⟩ := T.F_added
 refine fn_P (k := 0) F T.g_added (fun _ _ _ _ _ _ us hl=>match us,hl with | [_,_],_=>rfl) S_added (fun ds Qd h=>by first | (obtain ⟨rfl,_⟩ := h; rfl) | (obtain ⟨_,rfl,_⟩ := h; rfl) | (obtain ⟨_,_,rfl,_⟩ := h; rfl) | (obtain ⟨_,_,_,rfl,_⟩ := h; rfl) | (obtain ⟨_,_,_,_,rfl,_⟩ := h; rfl) | (obtain ⟨_,_,_,_,_,rfl,_⟩ := h; rfl) | (obtain ⟨_,_,_,_,_,_,rfl,_⟩ := h; rfl) | (obtain ⟨_,_,_,_,_,_,_,rfl,_⟩ := h; rfl) | (obtain ⟨_,_,_,_,_,_,_,_,rfl,_⟩ := h; rfl) | (obtain ⟨_,_,_,_,_,_,_,_,_,rfl,_⟩ := h; rfl) | (obtain ⟨_,_,_,_,_,_,_,_,_,_,rfl,_⟩ := h; rfl) | (obtain ⟨_,_,_,_,_,_,_,_,_,_,_,rfl,_⟩ := h; rfl)) fun cdv A outer s H E hr=>⟨_,(pss_one (ps_ret (pe_callTy (ktuple (K := K) rfl) (by rfl) T.n_tuple (by decide +kernel) (pa_cons (pe_lc (own := [("first",2),("second",3)]) rfl S_added.nd (kzipA (K := K) rfl (by rfl) T.n_zip (pa_cons (pv 0) (pa_cons (pv 1) pa_nil))) (blkOk_by (own := [("first",2),("second",3)]) (N := N_added) (sc := defScope s_added) (by decide +kernel)) (fun _ _ _ _ _=>(kgt (K := K) (n := 2) rfl rfl (pgs_cons (pg_name (i := 2) S_added.nd rfl (by first | exact .inl rfl | exact .inr rfl)) (pgs_cons (pg_name (i := 3) S_added.nd rfl (by first | exact .inl rfl | exact .inr rfl)) pgs_nil)))) (fun _ _ _ _ _=>pts_nil) (fun _ _ _ _ _=>(pe_op op_add (pv 2) (pv 3)))) pa_nil)))),fun ds Qd h=>?_⟩
 obtain ⟨xs,ys,rfl,hl,q⟩ := h
 refine ws_ret<|ew_cb<|ea_cons<|ew_new<|en_lcM (f := fAdd)<|ei_zip<|ea_cons<|ew_var rfl<|ea_cons<|ew_var rfl<|ea_nil ⟨_,_,.inr rfl,rfl,?_,fun i y hy=>?_,ea_nil<|opa_tuple rfl ?_⟩
 ·rw [zipD_len,List.length_map]; omega
 ·obtain ⟨a,b,_,_,rfl⟩ := zip_ints hy
  exact gv_tup rfl<|gvs_cons<|gv_name (by decide)<|gvs_cons<|gv_name (by decide)<|gvs_nil<|ew_op<|ew_var rfl<|ew_var rfl<|op2_int ⟨rfl,rfl⟩
 ·rw [zip_map (f := (· + ·)) (fun _ _=>rfl)]; exact q
def T_less : List D -> (D -> Prop) -> Prop := fun ds Q=>∃ (xs ys : List Int) (y : D),ds = [intsT xs,y] /\ (y = intsT ys \/ y = .lst (ys.map D.int)) /\ xs.length <= 1000 /\ Q (intsT (xs.zipWith (· - ·) ys))
abbrev N_less : List Str := ["one", "other", "first", "second"]
theorem S_less : FnScope N_less ["one", "other"] (defScope s_less) := ⟨rfl,rfl,rfl,by decide +kernel,rfl,by decide +kernel,by decide +kernel⟩
theorem ok_less (T : TX P K mg) : FnB P w K mg base 1 "less" ["one", "other"] (spP K T_less) := by
 obtain ⟨fd,F⟩ := T.F_less
 refine fn_P (k := 0) F T.g_less (fun _ _ _ _ _ _ us hl=>match us,hl with | [_,_],_=>rfl) S_less (fun ds Qd h=>by first | (obtain ⟨rfl,_⟩ := h; rfl) | (obtain ⟨_,rfl,_⟩ := h; rfl) | (obtain ⟨_,_,rfl,_⟩ := h; rfl) | (obtain ⟨_,_,_,rfl,_⟩ := h; rfl) | (obtain ⟨_,_,_,_,rfl,_⟩ := h; rfl) | (obtain ⟨_,_,_,_,_,rfl,_⟩ := h; rfl) | (obtain ⟨_,_,_,_,_,_,rfl,_⟩ := h; rfl) | (obtain ⟨_,_,_,_,_,_,_,rfl,_⟩ := h; rfl) | (obtain ⟨_,_,_,_,_,_,_,_,rfl,_⟩ := h; rfl) | (obtain ⟨_,_,_,_,_,_,_,_,_,rfl,_⟩ := h; rfl) | (obtain ⟨_,_,_,_,_,_,_,_,_,_,rfl,_⟩ := h; rfl) | (obtain ⟨_,_,_,_,_,_,_,_,_,_,_,rfl,_⟩ := h; rfl)) fun cdv A outer s H E hr=>⟨_,(pss_one (ps_ret (pe_callTy (ktuple (K := K) rfl) (by rfl) T.n_tuple (by decide +kernel) (pa_cons (pe_lc (own := [("first",2),("second",3)]) rfl S_less.nd (ZM.kzipM (K := K) rfl (by rfl) T.n_zip (pa_cons (pv 0) (pa_cons (pv 1) pa_nil))) (blkOk_by (own := [("first",2),("second",3)]) (N := N_less) (sc := defScope s_less) (by decide +kernel)) (fun _ _ _ _ _=>(kgt (K := K) (n := 2) rfl rfl (pgs_cons (pg_name (i := 2) S_less.nd rfl (by first | exact .inl rfl | exact .inr rfl)) (pgs_cons (pg_name (i := 3) S_less.nd rfl (by first | exact .inl rfl | exact .inr rfl)) pgs_nil)))) (fun _ _ _ _ _=>pts_nil) (fun _ _ _ _ _=>(pe_op op_sub (pv 2) (pv 3)))) pa_nil)))),fun ds Qd h=>?_⟩
 obtain ⟨xs,ys,y,rfl,hy,hl,q⟩ := h
 have tn : ∀ (i : Nat) d,(zipD (xs.map D.int) (ys.map D.int))[i]? = some d -> ∃ a b : Int,d = .tup [.int a,.int b] := fun i d hd=>by
  obtain ⟨a,b,_,_,e⟩ := zip_ints hd
  exact ⟨a,b,e⟩
 have e : (zipD (xs.map D.int) (ys.map D.int)).map fSub = (xs.zipWith (· - ·) ys).map D.int := zip_map (f := (· - ·)) (fun _ _=>rfl) xs ys
 have lz : (zipD (xs.map D.int) (ys.map D.int)).length <= 90000 := by rw [zipD_len,List.length_map]; omega
 rcases hy with rfl | rfl
 ·refine ws_ret<|ew_cb<|ea_cons<|ew_new<|en_lcM (f := fSub)<|ei_zipM<|ea_cons<|ew_var rfl<|ea_cons<|ew_var rfl<|ea_nil ⟨_,_,.inr rfl,rfl,lz,fun i y hy=>?_,ea_nil<|opa_tuple rfl ?_⟩
  ·obtain ⟨a,b,rfl⟩ := tn i y hy
   exact gv_tup rfl<|gvs_cons<|gv_name (by decide)<|gvs_cons<|gv_name (by decide)<|gvs_nil<|ew_op<|ew_var rfl<|ew_var rfl<|op2_int ⟨rfl,rfl⟩
  ·rw [e]; exact q
 ·refine ws_ret<|ew_cb<|ea_cons<|ew_new<|en_lcM (f := fSub)<|ei_zipTL<|ea_cons<|ew_var rfl<|ea_cons<|ew_var rfl<|ea_nil ⟨_,_,rfl,rfl,lz,fun i y hy=>?_,ea_nil<|opa_tuple rfl ?_⟩
  ·obtain ⟨a,b,rfl⟩ := tn i y hy
   exact gv_tup rfl<|gvs_cons<|gv_name (by decide)<|gvs_cons<|gv_name (by decide)<|gvs_nil<|ew_op<|ew_var rfl<|ew_var rfl<|op2_int ⟨rfl,rfl⟩
  ·rw [e]; exact q
end
end K65
namespace K65
open PySem PySem.Spec PyProof.Rows L2 DL SrtK
variable [TabL]
def sortsB (d : D) : Bool := match d.seq with
 | some xs=>xs.all isNameD && decide ((xs.map toStr).Nodup)
 | none=>false
theorem names_strs : ∀ {xs : List D},xs.all isNameD = true -> xs = strsD (xs.map toStr)
 | [],_=>rfl
 | x :: xs,h=>by
  rw [List.all_cons,Bool.and_eq_true] at h
  have ih := names_strs h.2
  unfold strsD at ih ⊢
  rw [List.map_cons,List.map_cons,<- ih]
  cases x <;> first | rfl | cases h.1
theorem toStr_strs (xs : List Str) : (strsD xs).map toStr = xs := by
 unfold strsD
 rw [List.map_map]
 exact List.map_id' xs
def tabI (t : TB) (ps : List (List Key × D)) : D := .ins "Table" [("waits",.tup (strsD t.waits)),("frees",.tup (strsD t.frees)),("depth",.int (t.depth : Nat)),("by_comer",.dt ps)]
def heldP (t : TB) : List (List Key × D) := (srtK (t.cs.map fun c=>keyP c.1)).map fun k=>(k,(dget (t.cs.map pairP) k).getD .non)
def Held (t : TB) (ps : List (List Key × D)) : Prop := ps = heldP t /\ ∀ k,dget ps k = dget (t.cs.map pairP) k
theorem nof3 : ("by_comer" : Str) ∉ (["waits", "frees", "depth"] : List Str) := by decide
theorem ast_ints (n : Nat) (xs : List Int) : astD (n + 2) (intsT xs) = intsT xs := by
 show D.tup ((xs.map D.int).map (astD (n + 1))) = D.tup (xs.map D.int)
 rw [List.map_map]; rfl
theorem ast_row (n : Nat) (a b : List Int) : astD (n + 3) (rowD a b) = rowD a b := by
 show D.tup [astD (n + 2) (intsT a),astD (n + 2) (intsT b)] = _
 rw [ast_ints,ast_ints]; rfl
theorem okN_ints {n : Nat} {xs : List Int} (h : xs.length <= 1000) : OkN (n + 1) (intsT xs) := .tup (by rw [List.length_map]; exact h) fun x hx=>by
 obtain ⟨i,_,rfl⟩ := List.mem_map.mp hx
 exact .int i
theorem okN_row {n : Nat} {a b : List Int} (ha : a.length <= 1000) (hb : b.length <= 1000) : OkN (n + 2) (rowD a b) := .tup (by show 2 <= 1000; decide) (mem2 (okN_ints ha) (okN_ints hb))
theorem dget_sel {κ : Type} [DecidableEq κ] (f : κ -> D) : ∀ (ks : List κ) (k : κ),dget (ks.map fun k=>(k,f k)) k = if k ∈ ks then some (f k) else none
 | [],k=>rfl
 | k0 :: ks,k=>by
  have ih := dget_sel f ks k
  unfold dget at ih ⊢
  rw [List.map_cons]
  by_cases e : k0 = k
  ·subst e
   rw [List.find?_cons_of_pos (by simp),if_pos List.mem_cons_self]; rfl
  ·rw [List.find?_cons_of_neg (by simpa using e),ih]
   simp only [List.mem_cons,Ne.symm e,false_or]
theorem dget_none {κ : Type} [DecidableEq κ] {ps : List (κ × D)} {k : κ} (h : k ∉ ps.map (·.1)) : dget ps k = none := by
 unfold dget
 rw [List.find?_eq_none.mpr fun p hp=>by simpa using fun e : p.1 = k=>h (e ▸ List.mem_map_of_mem (f := Prod.fst) hp)]; rfl
section
variable {P : Program} {w : World} {K : PySem.W.Frag} {mg : Str -> Option Value} {base : Heap}
abbrev T_are_sorts := T1 sortsB
abbrev N_are_sorts : List Str := ["thing", "one"]
theorem S_are_sorts : FnScope N_are_sorts ["thing"] (defScope s_are_sorts) := ⟨rfl,rfl,rfl,by decide +kernel,rfl,by decide +kernel,by decide +kernel⟩
theorem ok_are_sorts (T : TX P K mg) : FnB P w K mg base 2 "are_sorts" ["thing"] (spP K T_are_sorts) := by
 obtain ⟨fd,F⟩ := T.F_are_sorts
 have G_is_list := ok_is_list (P := P) (w := w) (base := base) T
 have G_is_name := ok_is_name (P := P) (w := w) (base := base) T
 have G_are_unlike := ok_are_unlike (P := P) (w := w) (base := base) T
 refine fn_P (k := 1) F T.g_are_sorts (fun _ _ _ _ _ _ us hl=>match us,hl with | [_],_=>rfl) S_are_sorts (fun ds Qd h=>by first | (obtain ⟨rfl,_⟩ := h; rfl) | (obtain ⟨_,rfl,_⟩ := h; rfl) | (obtain ⟨_,_,rfl,_⟩ := h; rfl) | (obtain ⟨_,_,_,rfl,_⟩ := h; rfl) | (obtain ⟨_,_,_,_,rfl,_⟩ := h; rfl) | (obtain ⟨_,_,_,_,_,rfl,_⟩ := h; rfl) | (obtain ⟨_,_,_,_,_,_,rfl,_⟩ := h; rfl) | (obtain ⟨_,_,_,_,_,_,_,rfl,_⟩ := h; rfl) | (obtain ⟨_,_,_,_,_,_,_,_,rfl,_⟩ := h; rfl) | (obtain ⟨_,_,_,_,_,_,_,_,_,rfl,_⟩ := h; rfl) | (obtain ⟨_,_,_,_,_,_,_,_,_,_,rfl,_⟩ := h; rfl) | (obtain ⟨_,_,_,_,_,_,_,_,_,_,_,rfl,_⟩ := h; rfl)) fun cdv A outer s H E hr=>⟨_,(pss_one (ps_ret (L2.pe_and (pe_callF G_is_list (hr.mono (by first | decide | omega)) (pa_cons (pv 0) pa_nil)) (L2.pe_and (pe_callB (kall rfl (K := K) rfl) (by rfl) T.n_all (by decide +kernel) (pa_cons (pe_lc (own := [("one",1)]) rfl S_are_sorts.nd (kwU (K := K) rfl (pv 0)) (blkOk_by (own := [("one",1)]) (N := N_are_sorts) (sc := defScope s_are_sorts) (by decide +kernel)) (fun _ _ _ _ _=>(pg_name (i := 1) S_are_sorts.nd rfl (by first | exact .inl rfl | exact .inr rfl))) (fun _ _ _ _ _=>pts_nil) (fun _ _ _ _ _=>(pe_callF G_is_name (hr.mono (by first | decide | omega)) (pa_cons (pv 1) pa_nil)))) pa_nil)) (pe_one (pe_callF G_are_unlike (hr.mono (by first | decide | omega)) (pa_cons (pe_callTy (klist (K := K) rfl) (by rfl) T.n_list (by decide +kernel) (pa_cons (pv 0) pa_nil)) pa_nil))))))),fun ds Qd h=>?_⟩
 obtain ⟨d,rfl,ok,q⟩ := h
 refine ws_ret<|ew_andV<|ew_callP<|ea_cons<|ew_var rfl<|ea_nil ⟨d,rfl,ok.plain,_,rfl,?_⟩
 cases hs : d.seq with
 | none =>
  rw [seq_isList hs ok]
  have e : sortsB d = false := by unfold sortsB; rw [hs]
  rw [e] at q
  exact iteF q
 | some xs =>
  have e : sortsB d = (xs.all isNameD && decide ((xs.map toStr).Nodup)) := by unfold sortsB; rw [hs]
  rw [e] at q
  obtain ⟨hl,ho⟩ := ok.seq hs
  rw [seq_isList' hs]
  refine iteT<|ew_andV<|ew_cb<|ea_cons<|ew_new<|en_lcB (f := isNameD)<|ei_seq d hs<|ew_var rfl ⟨rfl,rfl,by omega,fun i y hy=>gv_name (by decide)<|ew_callP<|ea_cons<|ew_var rfl<|ea_nil ⟨y,rfl,ho y (List.mem_of_getElem? hy),rfl,rfl⟩,ea_nil<|opa_all ⟨_,rfl,?_⟩⟩
  rw [all_map_id]
  cases c : xs.all isNameD with
  | false=>rw [c] at q; exact iteF q
  | true =>
   rw [c] at q
   refine iteT<|ew_callP<|ea_cons<|ew_new<|en_cb<|ea_cons<|ew_var rfl<|ea_nil<|opn_list hs<|ea_nil ⟨.lst xs,xs.map toStr,rfl,by rw [<- names_strs c]; rfl,by rw [List.length_map]; omega,q⟩
theorem held_dget {i j : Nat} {ρ : DL.Env} {ps : List (List Key × D)} {k : List Key} {d0 : D} (hi : ρ[i]? = some (.sh (.dt ps))) (hj : ρ[j]? = some (.sh (.tup (k.map kD)))) (hg : dget ps k = some d0) (hd : d0.isDict = true) : HeldE K (tDGet (tVar i) (tVar j)) ρ d0 := fun F G H σ R=>by
 obtain ⟨s,hs,v,rfl,hv⟩ := R.sl.get hi
 obtain ⟨s2,hs2,v2,rfl,hv2⟩ := R.sl.get hj
 obtain ⟨a,kvs,rfl,h1,h2,h3⟩ := rep_dt hv
 obtain ⟨b,rfl,hb⟩ := rep_kT hv2
 rcases dk_look k h2 h3 with ⟨_,z2⟩ | ⟨v1,d1,z1,z2,z3⟩
 ·rw [hg] at z2; cases z2
 ·rw [hg] at z2; cases z2
  obtain ⟨c,u,rfl,_⟩ := dict_at z3 hd
  exact ⟨c,z3,fun G2 H2 x2 R2 Q' q=>⟨_,hs,_,hs2,a,.ref c,rfl,.inr ⟨kvs,k,b,R2.wd.g.rdx.1 _ _ trivial (x2.1 _ _ trivial h1),rfl,R2.wd.g _ _ (x2.2.2.2.1 _ _ hb),z1.symm⟩,q⟩⟩
def T_Table___init__ : List D -> (D -> Prop) -> Prop := fun ds Q=>∃ t : TB,t.Ok /\ ds = [.lst (strsD t.waits),.lst (strsD t.frees),.int (t.depth : Nat),.dt (t.cs.map pairP)] /\ ∀ ps,Held t ps -> Q (tabI t ps)
abbrev N_Table___init__ : List Str := ["self", "waits", "frees", "depth", "comers", "comer", "counts"]
theorem S_Table___init__ : FnScope N_Table___init__ ["self", "waits", "frees", "depth", "comers"] (defScope s_Table___init__) := ⟨rfl,rfl,rfl,by decide +kernel,rfl,by decide +kernel,by decide +kernel⟩
theorem ok_Table___init__ (T : TX P K mg) : FnI P w K mg base 7 "Table" ["self", "waits", "frees", "depth", "comers"] (spI K "Table" T_Table___init__) := by
 obtain ⟨fd,F⟩ := T.F_Table___init__
 have G_are_sorts := ok_are_sorts (P := P) (w := w) (base := base) T
 have G_is_whole := ok_is_whole (P := P) (w := w) (base := base) T
 have G_are_comers := ok_are_comers (P := P) (w := w) (base := base) T
 have G_as_tuples := ok_as_tuples (P := P) (w := w) (base := base) T
 refine fn_I (k := 6) F T.mk_Table T.g_Table (fun _ _ _ _ _ _ us hl=>match us,hl with | [_,_,_,_,_],_=>rfl) S_Table___init__ (by decide) (fun ds Qd h=>by first | (obtain ⟨rfl,_⟩ := h; rfl) | (obtain ⟨_,rfl,_⟩ := h; rfl) | (obtain ⟨_,_,rfl,_⟩ := h; rfl) | (obtain ⟨_,_,_,rfl,_⟩ := h; rfl) | (obtain ⟨_,_,_,_,rfl,_⟩ := h; rfl) | (obtain ⟨_,_,_,_,_,rfl,_⟩ := h; rfl) | (obtain ⟨_,_,_,_,_,_,rfl,_⟩ := h; rfl) | (obtain ⟨_,_,_,_,_,_,_,rfl,_⟩ := h; rfl) | (obtain ⟨_,_,_,_,_,_,_,_,rfl,_⟩ := h; rfl) | (obtain ⟨_,_,_,_,_,_,_,_,_,rfl,_⟩ := h; rfl) | (obtain ⟨_,_,_,_,_,_,_,_,_,_,rfl,_⟩ := h; rfl) | (obtain ⟨_,_,_,_,_,_,_,_,_,_,_,rfl,_⟩ := h; rfl)) fun cdv A outer s H E hr=>⟨_,(pss_cons (ps_if (pt_not (pt_val (pe_callF G_are_sorts (hr.mono (by first | decide | omega)) (pa_cons (pv 1) pa_nil)))) (pss_one ps_never) pss_nil)
   (pss_cons (ps_if (pt_not (pt_val (pe_callF G_are_sorts (hr.mono (by first | decide | omega)) (pa_cons (pv 2) pa_nil)))) (pss_one ps_never) pss_nil)
   (pss_cons (ps_if (PW.pt (pw_or (pt_not (pt_val (pe_callF G_is_whole (hr.mono (by first | decide | omega)) (pa_cons (pv 3) pa_nil)))) (pw_or1 (pt_not (pt_chain op_le op_le pe_int (pv 3) (pe_glob (v := .int 3) (by rfl) T.c_DEEPEST.choose_spec ⟨_,rfl⟩)))))) (pss_one ps_never) pss_nil)
   (pss_cons (ps_if (pt_not (pt_val (pe_callF G_are_comers (hr.mono (by first | decide | omega)) (pa_cons (pv 4) (pa_cons (pv 1) (pa_cons (pv 2) (pa_cons (pv 3) pa_nil))))))) (pss_one ps_never) pss_nil)
   (pss_cons (ps_fld (pv 0) (pe_callTy (ktuple (K := K) rfl) (by rfl) T.n_tuple (by decide +kernel) (pa_cons (pv 1) pa_nil)) (by rfl))
   (pss_cons (ps_fld (pv 0) (pe_callTy (ktuple (K := K) rfl) (by rfl) T.n_tuple (by decide +kernel) (pa_cons (pv 2) pa_nil)) (by rfl))
   (pss_cons (ps_fld (pv 0) (pv 3) (by rfl))
   (pss_cons (ps_fld (pv 0) pe_dnewT (by rfl))
   (pss_one (ps_for PassesOwn.never rfl (kwl (K := K) rfl (pe_callB (SrtK.cr_sortKD rfl) (by rfl) T.n_sorted (by decide +kernel) (pa_cons (pv 4) pa_nil))) (pg_name (i := 5) S_Table___init__.nd rfl (by first | exact .inl rfl | exact .inr rfl))
   (pss_one (ps_dput (hu_of hr) (kfld (K := K) rfl (pv 0) rfl) (pv 5) (pe_either (pe_lock (LowX.pe_dcT hr.units (own := [("counts",6)]) rfl S_Table___init__.nd (pi_keys (pe_dget (hu_of hr) (pv 4) (pv 5) (fun _ _=>rfl))) (blkOk_by (own := [("counts",6)]) (N := N_Table___init__) (sc := defScope s_Table___init__) (by decide +kernel)) (fun _ _ _ _ _=>(pg_name (i := 6) S_Table___init__.nd rfl (by first | exact .inl rfl | exact .inr rfl))) (fun _ _ _ _ _=>pts_nil) (fun _ _ _ _ _=>(pv 6)) (fun _ _ _ _ _=>(pe_callF G_as_tuples (hr.mono (by first | decide | omega)) (pa_cons (pe_dget (hu_of hr) (pe_dget (hu_of hr) (pv 4) (pv 5) (fun _ _=>rfl)) (pv 6) (fun _ _=>rfl)) pa_nil))))) (LowX.pe_dcT hr.units (own := [("counts",6)]) rfl S_Table___init__.nd (pi_keys (pe_dget (hu_of hr) (pv 4) (pv 5) (fun _ _=>rfl))) (blkOk_by (own := [("counts",6)]) (N := N_Table___init__) (sc := defScope s_Table___init__) (by decide +kernel)) (fun _ _ _ _ _=>(pg_name (i := 6) S_Table___init__.nd rfl (by first | exact .inl rfl | exact .inr rfl))) (fun _ _ _ _ _=>pts_nil) (fun _ _ _ _ _=>(pv 6)) (fun _ _ _ _ _=>(pe_callF G_as_tuples (hr.mono (by first | decide | omega)) (pa_cons (pe_dget (hu_of hr) (pe_dget (hu_of hr) (pv 4) (pv 5) (fun _ _=>rfl)) (pv 6) (fun _ _=>rfl)) pa_nil))))) rfl)))))))))))),fun a ds Qd h=>?_⟩
 obtain ⟨t,o,rfl,q⟩ := h
 have lw : (strsD t.waits).length = t.waits.length := by unfold strsD; rw [List.length_map]
 have lf : (strsD t.frees).length = t.frees.length := by unfold strsD; rw [List.length_map]
 have nm : ∀ xs : List Str,(∀ x ∈ xs,isNameS x = true) -> xs.Nodup -> xs.length <= 3 -> Ok (.lst (strsD xs)) /\ sortsB (.lst (strsD xs)) = true := fun xs h hn hl=>by
  refine ⟨.lst (by unfold strsD; rw [List.length_map]; omega) fun d hd=>?_,?_⟩
  ·obtain ⟨x,hx,rfl⟩ := List.mem_map.mp hd
   exact .str (by have := name_len (h x hx); omega)
  ·show (_ && _) = true
   rw [toStr_strs,decide_eq_true hn,Bool.and_true,List.all_eq_true]
   intro d hd
   obtain ⟨x,hx,rfl⟩ := List.mem_map.mp hd
   exact h x hx
 obtain ⟨w1,w2⟩ := nm t.waits o.wi o.wn o.w1.2
 obtain ⟨f1,f2⟩ := nm t.frees o.fi o.fn o.f1.2
 refine ws_seq<|ws_ifn (C := True) (et_not<|et_B<|ew_callP<|ea_cons<|ew_var rfl<|ea_nil ⟨_,rfl,w1,?_⟩) fun _=>?_
 ·rw [w2]; exact ⟨_,rfl,iteF ⟨rfl,trivial⟩⟩
 refine ws_seq<|ws_ifn (C := True) (et_not<|et_B<|ew_callP<|ea_cons<|ew_var rfl<|ea_nil ⟨_,rfl,f1,?_⟩) fun _=>?_
 ·rw [f2]; exact ⟨_,rfl,iteF ⟨rfl,trivial⟩⟩
 refine ws_seq<|ws_ifn (C := True) (et_or<|et_not<|et_B<|ew_callP<|ea_cons<|ew_var rfl<|ea_nil ⟨_,rfl,.int _,_,rfl,iteF<|et_not<|et_test<|ew_chain<|ew_int<|ew_var rfl<|op2_cmp ⟨_,rfl,?_⟩⟩) fun _=>?_
 ·rw [decide_eq_true (show (1 : Int) <= (t.depth : Nat) by have := o.d1; omega)]
  refine iteT<|ew_int<|op2_cmp ⟨_,rfl,?_⟩
  rw [decide_eq_true (show ((t.depth : Nat) : Int) <= 3 by have := o.d1; omega)]
  exact iteF ⟨rfl,trivial⟩
 refine ws_seq<|ws_ifn (C := True) (et_not<|et_B<|ew_callP<|ea_cons<|ew_var rfl<|ea_cons<|ew_var rfl<|ea_cons<|ew_var rfl<|ea_cons<|ew_var rfl<|ea_nil ⟨t,_,_,o,rfl,rfl,rfl,_,rfl,iteF ⟨rfl,trivial⟩⟩) fun _=>?_
 refine ws_seq<|ws_fldset (a := a) T.cl_Table T.na_Table_waits<|ew_cb<|ea_cons<|ew_var rfl<|ea_nil<|opa_tuple rfl ⟨[],rfl,by show 0 < 1000; decide,?_⟩
 refine ws_seq<|ws_fldset (a := a) T.cl_Table T.na_Table_frees<|ew_cb<|ea_cons<|ew_var rfl<|ea_nil<|opa_tuple rfl ⟨_,rfl,by show 1 < 1000; decide,?_⟩
 refine ws_seq<|ws_fldset (a := a) T.cl_Table T.na_Table_depth<|ew_var rfl ⟨_,rfl,by show 2 < 1000; decide,?_⟩
 refine ws_seq<|ws_fldT (a := a) T.cl_Table T.na_Table_by_comer<|en_dnewT ⟨[("waits",.tup (strsD t.waits)),("frees",.tup (strsD t.frees)),("depth",.int (t.depth : Nat))],[],rfl,rfl,by show 3 < 1000; decide,nof3,fun p=>?_⟩
 have hks : ((t.cs.map pairP).map (·.1)) = t.cs.map fun c=>keyP c.1 := by rw [List.map_map]; rfl
 have hnd : (t.cs.map fun c=>keyP c.1).Nodup := by
  have := o.nd
  rw [List.nodup_iff_pairwise_ne,List.pairwise_map] at this ⊢
  exact this.imp fun h e=>h (keyP_inj _ _ e)
 refine ws_endI 0<|ws_for<|ei_list<|ew_new<|en_cb<|ea_cons<|ew_var rfl<|ea_nil<|opn_sortKD (b := false) (sr := [false]) (fun k hk=>?_) ⟨_,rfl,?_⟩
 ·rw [hks] at hk
  obtain ⟨c,_,rfl⟩ := List.mem_map.mp hk
  rfl
 rw [hks]
 have hm : ∀ k,k ∈ srtK (t.cs.map fun c=>keyP c.1) ↔ k ∈ t.cs.map fun c=>keyP c.1 := fun k=>srtK_mem
 have hn := srtK_nodup hnd
 generalize hK : srtK (t.cs.map fun c=>keyP c.1) = ks at *
 generalize hV : (fun k=>(dget (t.cs.map pairP) k).getD .non) = V at *
 refine ⟨fun i ρ=>∃ s5 : Sl,ρ = [insT K a p "Table" [("waits",.tup (strsD t.waits)),("frees",.tup (strsD t.frees)),("depth",.int (t.depth : Nat))] "by_comer" ((ks.take i).map fun k=>(k,V k)),.sh (.lst (strsD t.waits)),.sh (.lst (strsD t.frees)),.sh (.int (t.depth : Nat)),.sh (.dt (t.cs.map pairP)),s5,.un],⟨_,rfl⟩,?_,?_⟩
 ·rintro i d ρ' hd ⟨s5,rfl⟩
  rw [List.getElem?_map] at hd
  obtain ⟨k,hk,rfl⟩ := Option.map_eq_some_iff.mp hd
  obtain ⟨c,hc,rfl⟩ := List.mem_map.mp ((hm k).mp (List.mem_of_getElem? hk))
  have hg : dget (t.cs.map pairP) (keyP c.1) = some (rowsD c.2) := by
   rw [dget_comers]
   unfold TB.rowsAt
   rw [find_key (xs := t.cs) (k := c.1) (v := c.2) o.nd hc]; rfl
  have hr := o.rows c hc
  have hkr := hr.keys
  have h3 := o.own3 c.1.1
  have hl64 : c.2.length <= 64 := by
   have : c.2.length = (allC t.depth (t.ownN c.1.1)).length := by rw [<- hkr,List.length_map]
   rw [this,allC_len]
   exact Nat.le_trans (Nat.pow_le_pow_right (by omega) h3.1) (Nat.pow_le_pow_left (by have := o.d1; omega : t.depth + 1 <= 4) 3)
  have hrn : (c.2.map (·.1)).Nodup := by rw [hkr]; exact allC_nodup _ _
  have ek : ((c.2.map pairC).map fun p : List Key × D=>D.tup (p.1.map kD)) = c.2.map fun r=>intsT r.1 := by
   rw [List.map_map]
   exact List.map_congr_left fun r _=>keyC_kD r.1
  have kd : (c.2.map fun r=>keyC r.1).Nodup := by
   have := hrn
   rw [List.nodup_iff_pairwise_ne,List.pairwise_map] at this ⊢
   exact this.imp fun h e=>h (keyC_inj _ _ e)
  have hli := (List.getElem?_eq_some_iff.mp hk).1
  have hks4 : ks.length <= 4 := by
   have h1 : ks.length <= (t.cs.map fun c=>keyP c.1).length := hn.length_le_of_subset fun k hk=>(hm k).mp hk
   rw [List.length_map] at h1
   have := o.len
   omega
  refine gw_name<|ws_dputI (a := a) (p := p) (fs := [("waits",.tup (strsD t.waits)),("frees",.tup (strsD t.frees)),("depth",.int (t.depth : Nat))]) T.cl_Table T.na_Table_by_comer nof3<|ew_new<|en_dcTE (wi := iKeys) (d0 := rowsD c.2) (held_dget (i := 4) (j := 5) (k := keyP c.1) rfl rfl hg rfl) rfl (we_keysT (ps := c.2.map pairC)) rfl (by rw [List.length_map,List.length_map]; omega) (fun i acc=>acc = (c.2.take i).map pairC) rfl (fun i d acc hd hp=>?_) fun acc hp=>⟨rfl,ew_var rfl ⟨keyP c.1,_,rfl,rfl,by rw [List.length_map,List.length_take]; omega,.sh (.tup ((keyP c.1).map kD)),?_⟩⟩
  ·rw [ek,List.getElem?_map] at hd
   obtain ⟨r,hr0,rfl⟩ := Option.map_eq_some_iff.mp hd
   have hrm := List.mem_of_getElem? hr0
   have hg2 : dget (c.2.map pairC) (keyC r.1) = some (rowD r.2.1 r.2.2) := by
    rw [dget_rows]
    unfold rowAt
    rw [find_key (xs := c.2) (k := r.1) (v := r.2) hrn hrm]; rfl
   have hro := hr.ok r hrm
   have hr1 : r.1.length <= 3 := by rw [(allC_row _ (hkr ▸ List.mem_map_of_mem (f := fun r : RowT=>r.1) hrm)).1]; exact h3.1
   refine gv_name (by decide)<|et_yes ⟨rfl,iteT<|ew_var rfl ⟨rfl,ew_callP<|ea_cons<|ew_dgetkT<|ew_dgetkT<|ew_var rfl<|ew_var rfl ⟨keyP c.1,_,rowsD c.2,rfl,rfl,hg,ew_var rfl ⟨keyC r.1,_,_,(keyC_kD r.1).symm,rfl,hg2,ea_nil ⟨rowD r.2.1 r.2.2,rfl,okN_row (by rw [hro.len]; omega) (by rw [hro.lenR]; omega),rfl,keyC r.1,(keyC_kD r.1).symm,?_⟩⟩⟩⟩⟩
   rw [hp,ast_row]
   have hni : keyC r.1 ∉ ((c.2.take i).map pairC).map (·.1) := fun z=>by
    rw [List.map_map] at z
    have z : keyC r.1 ∈ (c.2.take i).map fun r=>keyC r.1 := z
    rw [List.map_take] at z
    exact not_take kd (by rw [List.getElem?_map,hr0]; rfl) z
   rw [dput_app hni,take_snoc hr0,List.map_append]; rfl
  ·have hni : keyP c.1 ∉ ((ks.take i).map fun k=>(k,V k)).map (·.1) := fun z=>by
    rw [List.map_map] at z
    have e : (ks.take i).map ((fun p : List Key × D=>p.1) ∘ fun k=>(k,V k)) = ks.take i := List.map_id' _
    rw [e] at z
    exact not_take hn hk z
   have ea : acc = c.2.map pairC := by rw [hp,List.length_map,List.length_map,List.take_length]
   show [insT K a p "Table" _ "by_comer" (dput _ (keyP c.1) (.dt acc)),_,_,_,_,_,_] = _
   rw [dput_app hni,ea,take_snoc hk,List.map_append]
   have ev : V (keyP c.1) = .dt (c.2.map pairC) := by
    rw [<- hV]
    show (dget (t.cs.map pairP) (keyP c.1)).getD .non = _
    rw [hg]; rfl
   rw [show List.map (fun k=>(k,V k)) [keyP c.1] = [(keyP c.1,V (keyP c.1))] from rfl,ev]
 ·rintro ρ' ⟨s5,rfl⟩
  rw [List.length_map,List.take_length]
  refine ⟨a,p,_,_,_,_,rfl,_,rfl,q _ ⟨by unfold heldP; rw [hK,<- hV],fun k=>?_⟩⟩
  rw [dget_sel]
  split
  ·next hin =>
   obtain ⟨c,hc,rfl⟩ := List.mem_map.mp ((hm k).mp hin)
   rw [<- hV]
   show some ((dget (t.cs.map pairP) (keyP c.1)).getD .non) = dget (t.cs.map pairP) (keyP c.1)
   rw [dget_comers]
   unfold TB.rowsAt
   rw [find_key (xs := t.cs) (k := c.1) (v := c.2) o.nd hc]; rfl
  ·next hin =>
   rw [dget_none]
   rw [hks]
   exact fun z=>hin ((hm k).mpr z)
end
end K65
namespace K65
open PySem PySem.Spec PyProof.Rows L2 DL SrtK
variable [TabL]
theorem ws_asgXG {K : PySem.W.Frag} {te : TE} {ρ : DL.Env} {E : EndD} {W : XK} {g : TG} (hW : E.W = W) (h : EvX K te W ρ (fun d ρ'=>GW K g d ρ' E.nx) E.xx) : WS K (tAsg te g) ρ E := fun F G H σ Dn R L=>h F G H σ R (hW ▸ L.xl) _ fun v d ρ' G' H' e R' hv q=>q F G' H' σ v R' hv _ fun σ' ρ2 G2 H2 e2 R2 n=>L.nx σ' ρ2 G2 H2 (e.trans e2) R2 n
theorem op2_eq_nonS {K : PySem.W.Frag} {ρ : DL.Env} {Q : D -> DL.Env -> Prop} {i : Str} (q : Q (.bl false) ρ) : Op2 K rEq .non (.str i) ρ Q := fun F G H σ R v w hv hw Q' k=>by
 have e1 := rep_non hv
 have e2 := rep_str hw
 subst e1 e2
 exact ⟨rfl,k _ _ ρ G H (Ex.refl G) R (.bl _) q⟩
def TB.comerOf (t : TB) (d : D) : Option ((Str × Str) × List RowT) := match d.seq with
 | some [.str x,.str y]=>(t.rowsAt (x,y)).map fun r=>((x,y),r)
 | _=>none
theorem rowsAt_mem {t : TB} {k : Str × Str} {rows : List RowT} (h : t.rowsAt k = some rows) : (k,rows) ∈ t.cs := by
 unfold TB.rowsAt at h
 obtain ⟨p,hp,rfl⟩ := Option.map_eq_some_iff.mp h
 have e : p.1 = k := of_decide_eq_true (List.find?_some (p := fun p : ComerT=>decide (p.1 = k)) hp)
 rw [<- e]
 exact List.mem_of_find?_eq_some hp
theorem mem_rowsAt {t : TB} (o : t.Ok) {k : Str × Str} {rows : List RowT} (h : (k,rows) ∈ t.cs) : t.rowsAt k = some rows := by
 unfold TB.rowsAt
 rw [find_key o.nd h]; rfl
theorem comerOf_some {t : TB} {d : D} {k : Str × Str} {rows : List RowT} (h : t.comerOf d = some (k,rows)) : d.seq = some [.str k.1,.str k.2] /\ (k,rows) ∈ t.cs := by
 unfold TB.comerOf at h
 split at h
 ·next x y e =>
  obtain ⟨r,hr,e2⟩ := Option.map_eq_some_iff.mp h
  cases e2
  exact ⟨e,rowsAt_mem hr⟩
 ·cases h
theorem rowAt_mem {rows : List RowT} {cs : List Int} {r : List Int × List Int} (h : rowAt rows cs = some r) : (cs,r) ∈ rows := by
 unfold rowAt at h
 obtain ⟨p,hp,rfl⟩ := Option.map_eq_some_iff.mp h
 have e : p.1 = cs := of_decide_eq_true (List.find?_some (p := fun p : RowT=>decide (p.1 = cs)) hp)
 rw [<- e]
 exact List.mem_of_find?_eq_some hp
theorem mem_rowAt {own other depth : Nat} {rows : List RowT} (h : RowsOk own other depth rows) {cs : List Int} {r : List Int × List Int} (hm : (cs,r) ∈ rows) : rowAt rows cs = some r := by
 unfold rowAt
 rw [find_key (by rw [h.keys]; exact allC_nodup _ _) hm]; rfl
theorem allC_mem (most : Nat) : ∀ (n : Nat) {row : List Int},row.length = n -> (∀ x ∈ row,0 <= x /\ x <= (most : Int)) -> row ∈ allC most n
 | 0,row,h,_=>by
  rw [List.length_eq_zero_iff.mp h]
  exact List.mem_cons_self
 | n + 1,row,h,hb=>by
  have hne : row ≠ [] := fun z=>by rw [z] at h; cases h
  have e := List.dropLast_concat_getLast hne
  refine List.mem_flatMap.mpr ⟨row.dropLast,allC_mem most n (by rw [List.length_dropLast,h]; rfl) fun x hx=>hb x ((List.dropLast_sublist row).subset hx),List.mem_map.mpr ⟨row.getLast hne,?_,e⟩⟩
  obtain ⟨h1,h2⟩ := hb _ (List.getLast_mem hne)
  unfold nums
  refine List.mem_map.mpr ⟨(row.getLast hne).toNat,List.mem_range.mpr (by omega),?_⟩
  show ((row.getLast hne).toNat : Int) = _
  omega
theorem rowAt_ex {own other depth : Nat} {rows : List RowT} (h : RowsOk own other depth rows) {cs : List Int} (h1 : cs.length = own) (h2 : ∀ x ∈ cs,0 <= x /\ x <= (depth : Int)) : ∃ r,rowAt rows cs = some r /\ RowOk cs other r.1 r.2 := by
 have hm := allC_mem depth own h1 h2
 rw [<- h.keys] at hm
 obtain ⟨p,hp,rfl⟩ := List.mem_map.mp hm
 exact ⟨p.2,mem_rowAt h hp,h.ok p hp⟩
def HeadS (d : D) : Prop := ∀ xs,d.seq = some xs -> xs = [] \/ ∃ x r,xs = .str x :: r
theorem HeadS.two {d : D} (h : HeadS d) {xs : List D} (e : d.seq = some xs) (h2 : xs.length = 2) : ∃ x,xs[0]? = some (.str x) := by
 rcases h xs e with rfl | ⟨x,r,rfl⟩
 ·cases h2
 ·exact ⟨x,rfl⟩
def RowRes (t : TB) (d c : D) (Q : D -> Prop) (X : Str -> Str -> D -> Prop) : Prop := match t.comerOf d with
 | none=>X "BadComer" "comer" d
 | some (k,rows)=>∃ cs : List Int,c = intsT cs /\ cs.length = t.ownN k.1 /\ (∀ x ∈ cs,0 <= x /\ x <= (t.depth : Int)) /\ ∀ r,rowAt rows cs = some r -> Q (rowD r.1 r.2)
def seqIs (d : D) (xs : List Int) : Prop := d.seq = some (xs.map D.int)
structure BookD (t : TB) (d : D) (b : List Int × List Int) : Prop where
 ex : ∃ x y,d.seq = some [x,y] /\ seqIs x b.1 /\ seqIs y b.2
 l1 : b.1.length = t.waits.length
 l2 : b.2.length = t.frees.length
 p1 : ∀ x ∈ b.1,0 <= x
 p2 : ∀ x ∈ b.2,0 <= x
def BadB (t : TB) (d : D) : Prop := bookB d = false \/ bookB d = true /\ ∃ x y xs ys,d.seq = some [x,y] /\ x.seq = some xs /\ y.seq = some ys /\ (xs.length ≠ t.waits.length \/ ys.length ≠ t.frees.length)
def zAdd (xs ys : List Int) : List Int := xs.zipWith (· + ·) ys
def zSub (xs ys : List Int) : List Int := xs.zipWith (· - ·) ys
def clip (dp : Int) (b : List Int) : List Int := b.map fun i=>if dp < i then dp else i
def bookD (b : List Int × List Int) : D := .tup [intsT b.1,intsT b.2]
def TB.aft (t : TB) (b : List Int × List Int) (k : Str × Str) (rows : List RowT) : Option (List Int × List Int) :=
 if k.1 = "person" then (rowAt rows (clip (t.depth : Nat) b.2)).map fun r=>(zAdd b.1 r.2,zSub b.2 r.1)
 else (rowAt rows (clip (t.depth : Nat) b.1)).map fun r=>(zSub b.1 r.1,zAdd b.2 r.2)
def AftRes (t : TB) (b : List Int × List Int) (e : D) (Q : D -> Prop) (X : Str -> Str -> D -> Prop) : Prop := match t.comerOf e with
 | none=>X "BadComer" "comer" e
 | some (k,rows)=>∀ b',t.aft b k rows = some b' -> Q (bookD b')
theorem counts_seq {d : D} {xs : List Int} (h : seqIs d xs) {n : Int} {most : Option Int} (hl : (xs.length : Int) = n) (h2 : ∀ x ∈ xs,0 <= x /\ (most.all fun m=>decide (x <= m)) = true) : countsD d n most = true := by
 have := counts_ints hl h2
 unfold countsD at this ⊢
 rw [h]
 exact this
theorem BookD.isB {t : TB} {d : D} {b : List Int × List Int} (h : BookD t d b) : bookB d = true := by
 obtain ⟨x,y,e,hx,hy⟩ := h.ex
 unfold bookB
 rw [e]
 have : ∀ {x : D} {xs : List Int},seqIs x xs -> (∀ z ∈ xs,0 <= z) -> halfB x = true := fun {x xs} hx hp=>by
  unfold halfB
  rw [hx]
  exact counts_seq hx (by rw [List.length_map]) fun z hz=>⟨hp z hz,rfl⟩
 show (_ && (_ && (_ && true))) = true
 rw [this hx h.p1,this hy h.p2]; rfl
section
variable {P : Program} {w : World} {K : PySem.W.Frag} {mg : Str -> Option Value} {base : Heap}
def T_Table_row : TSp := fun ds Q X=>∃ (t : TB) (ps : List (List Key × D)) (d c : D),t.Ok /\ Held t ps /\ ds = [tabI t ps,d,c] /\ Ok d /\ HeadS d /\ RowRes t d c (fun r=>Q (.sh r)) X
abbrev N_Table_row : List Str := ["self", "comer", "counts", "many"]
theorem S_Table_row : FnScope N_Table_row ["self", "comer", "counts"] (defScope s_Table_row) := ⟨rfl,rfl,rfl,by decide +kernel,rfl,by decide +kernel,by decide +kernel⟩
theorem ok_Table_row (T : TX P K mg) : FnM P w K mg base 3 "Table" "row" ["self", "comer", "counts"] (spU K (TSh T_Table_row)) := by
 obtain ⟨fd,F⟩ := T.F_Table_row
 have G_is_list := ok_is_list (P := P) (w := w) (base := base) T
 have G_is_comer := ok_is_comer (P := P) (w := w) (base := base) T
 have G_are_counts := ok_are_counts (P := P) (w := w) (base := base) T
 refine fn_SM (k := 2) F T.me_Table_row T.cl_Table (fun _ _ _ _ _ _ us hl=>match us,hl with | [_,_,_],_=>rfl) S_Table_row (fun ds Qd X h=>by first | (obtain ⟨rfl,_⟩ := h; rfl) | (obtain ⟨_,rfl,_⟩ := h; rfl) | (obtain ⟨_,_,rfl,_⟩ := h; rfl) | (obtain ⟨_,_,_,rfl,_⟩ := h; rfl) | (obtain ⟨_,_,_,_,rfl,_⟩ := h; rfl) | (obtain ⟨_,_,_,_,_,rfl,_⟩ := h; rfl) | (obtain ⟨_,_,_,_,_,_,rfl,_⟩ := h; rfl) | (obtain ⟨_,_,_,_,_,_,_,rfl,_⟩ := h; rfl) | (obtain ⟨_,_,_,_,_,_,_,_,rfl,_⟩ := h; rfl) | (obtain ⟨_,_,_,_,_,_,_,_,_,rfl,_⟩ := h; rfl) | (obtain ⟨_,_,_,_,_,_,_,_,_,_,rfl,_⟩ := h; rfl) | (obtain ⟨_,_,_,_,_,_,_,_,_,_,_,rfl,_⟩ := h; rfl)) fun cdv A outer s H W hcd hr tk po=>⟨_,(pss_cons (ps_if (PW.pt (pw_or (pt_not (pt_val (pe_callF G_is_list (hr.mono (by first | decide | omega)) (pa_cons (pv 1) pa_nil)))) (pw_or (pt_not (pt_val (pe_callF G_is_comer (hr.mono (by first | decide | omega)) (pa_cons (pe_callTy (ktuple (K := K) rfl) (by rfl) T.n_tuple (by decide +kernel) (pa_cons (pv 1) pa_nil)) pa_nil)))) (pw_or1 (pt_cmp (pc_dnotin (hu_of hr) (pe_callTy (ktuple (K := K) rfl) (by rfl) T.n_tuple (by decide +kernel) (pa_cons (pv 1) pa_nil)) (kfld (K := K) rfl (pv 0) rfl))))))) (pss_one (ps_raise rfl tk (pmk_sup (k := 0) T.S_BadComer (hr.mono (by first | decide | omega)) (by rfl) T.g_BadComer T.n_super (pv 1)))) pss_nil)
   (pss_cons (ps_set (i := 3) S_Table_row.nd rfl (by first | exact .inl rfl | exact .inr rfl) (pe_ifExp (pt_cmpR op_eq (pe_ix (kix (K := K) rfl) (pv 1) pe_int (fun _ _=>rfl)) pe_str (nomark _)) (pe_callB (klen (K := K) rfl) (by rfl) T.n_len (by decide +kernel) (pa_cons (kfld (K := K) rfl (pv 0) rfl) pa_nil)) (pe_callB (klen (K := K) rfl) (by rfl) T.n_len (by decide +kernel) (pa_cons (kfld (K := K) rfl (pv 0) rfl) pa_nil))))
   (pss_cons (ps_if (pt_not (pt_val (pe_callF G_are_counts (hr.mono (by first | decide | omega)) (pa_cons (pv 2) (pa_cons (pv 3) (pa_cons (kfld (K := K) rfl (pv 0) rfl) pa_nil)))))) (pss_one (ps_raise rfl tk (pmk_sup (k := 0) T.S_BadCounts (hr.mono (by first | decide | omega)) (by rfl) T.g_BadCounts T.n_super (pv 2)))) pss_nil)
   (pss_one (ps_ret (pe_dget (hu_of hr) (pe_dget (hu_of hr) (kfld (K := K) rfl (pv 0) rfl) (pe_callTy (ktuple (K := K) rfl) (by rfl) T.n_tuple (by decide +kernel) (pa_cons (pv 1) pa_nil)) (fun _ _=>rfl)) (pe_callTy (ktuple (K := K) rfl) (by rfl) T.n_tuple (by decide +kernel) (pa_cons (pv 2) pa_nil)) (fun _ _=>rfl))))))),fun ds Qd X h=>?_⟩
 obtain ⟨t,ps,d,c,o,hh,rfl,ok,hs0,q⟩ := h
 have lw : (strsD t.waits).length = t.waits.length := by unfold strsD; rw [List.length_map]
 have lf : (strsD t.frees).length = t.frees.length := by unfold strsD; rw [List.length_map]
 have bad : t.comerOf d = none -> X "BadComer" "comer" d := fun e=>by
  unfold RowRes at q
  rw [e] at q; exact q
 have good : ∀ k rows,t.comerOf d = some (k,rows) -> ∃ cs : List Int,c = intsT cs /\ cs.length = t.ownN k.1 /\ (∀ x ∈ cs,0 <= x /\ x <= (t.depth : Int)) /\ ∀ r,rowAt rows cs = some r -> Qd (.sh (rowD r.1 r.2)) := fun k rows e=>by
  unfold RowRes at q
  rw [e] at q; exact q
 refine ws_seq<|ws_ifn (C := ∃ k rows,t.comerOf d = some (k,rows)) (et_or<|et_not<|et_B<|ew_callP<|ea_cons<|ew_var rfl<|ea_nil ⟨d,rfl,ok.plain,_,rfl,?_⟩) fun hC=>?_
 ·cases hs : d.seq with
  | none =>
   rw [seq_isList hs ok]
   exact iteT<|iteT<|ws_raise rfl<|ew_var rfl<|bad (by unfold TB.comerOf; rw [hs])
  | some xs =>
   obtain ⟨hl,ho⟩ := ok.seq hs
   rw [seq_isList' hs]
   refine iteF<|et_or<|et_not<|et_B<|ew_callP<|ea_cons<|ew_cb<|ea_cons<|ew_var rfl<|ea_nil<|opa_tuple hs<|ea_nil ⟨xs,rfl,hl,ho,fun h2=>hs0.two hs h2,?_⟩
   cases hb : comerB xs with
   | false =>
    refine ⟨_,rfl,iteT<|iteT<|ws_raise rfl<|ew_var rfl<|bad ?_⟩
    cases e : t.comerOf d with
    | none=>rfl
    | some p =>
     obtain ⟨k,rows⟩ := p
     obtain ⟨e1,e2⟩ := comerOf_some e
     rw [hs] at e1
     cases e1
     have : comerB [.str k.1,.str k.2] = true := by
      show (sideS k.1 && isNameS k.2) = true
      rw [o.side _ e2,o.name _ e2]; rfl
     rw [this] at hb; cases hb
   | true =>
    obtain ⟨x,y,rfl⟩ : ∃ x y,xs = [.str x,.str y] := by
     unfold comerB at hb
     split at hb
     ·next x n =>
      rw [Bool.and_eq_true] at hb
      cases n with
      | str y=>exact ⟨x,y,rfl⟩
      | _=>cases hb.2
     ·cases hb
    refine ⟨_,rfl,iteF<|et_test<|ew_dnotinT<|ew_cb<|ea_cons<|ew_var rfl<|ea_nil<|opa_tuple hs<|ew_fld<|ew_var rfl ⟨"Table",_,_,rfl,T.cl_Table,T.na_Table_by_comer,rfl,keyP (x,y),ps,rfl,rfl,_,rfl,?_⟩⟩
    rw [hh.2,dget_comers]
    have ec : t.comerOf d = (t.rowsAt (x,y)).map fun r=>((x,y),r) := by unfold TB.comerOf; rw [hs]
    cases er : t.rowsAt (x,y) with
    | none =>
     rw [er] at ec
     exact iteT<|ws_raise rfl<|ew_var rfl<|bad ec
    | some rows =>
     rw [er] at ec
     exact iteF ⟨rfl,_,_,ec⟩
 obtain ⟨k,rows,ec⟩ := hC
 obtain ⟨cs,rfl,hcl,hcb,qr⟩ := good k rows ec
 obtain ⟨hs,hm⟩ := comerOf_some ec
 have h3 := o.own3 k.1
 refine ws_seq<|ws_asg<|ew_weak (Q₁ := fun m ρ1=>m = .int (t.ownN k.1 : Nat) /\ ρ1 = [.sh (tabI t ps),.sh d,.sh (intsT cs),.un]) ?_ ?_
 ·refine ew_if<|et_test<|ew_op<|ew_op<|ew_var rfl<|ew_int<|op2_ix (d := .str k.1) hs rfl<|ew_str<|op2_eq_str ⟨_,rfl,?_⟩
  by_cases e : k.1 = ("person" : Str)
  ·rw [decide_eq_true e]
   refine iteT<|ew_cb<|ea_cons<|ew_fld<|ew_var rfl ⟨"Table",_,_,rfl,T.cl_Table,T.na_Table_frees,rfl,ea_nil<|opa_len rfl ⟨?_,rfl⟩⟩
   unfold TB.ownN
   rw [if_pos e,lf]
  ·rw [decide_eq_false e]
   refine iteF<|ew_cb<|ea_cons<|ew_fld<|ew_var rfl ⟨"Table",_,_,rfl,T.cl_Table,T.na_Table_waits,rfl,ea_nil<|opa_len rfl ⟨?_,rfl⟩⟩
   unfold TB.ownN
   rw [if_neg e,lw]
 rintro m ρ1 ⟨rfl,rfl⟩
 refine gw_name<|ws_seq<|ws_ifn (C := True) (et_not<|et_B<|ew_callP<|ea_cons<|ew_var rfl<|ea_cons<|ew_var rfl<|ea_cons<|ew_fld<|ew_var rfl ⟨"Table",_,_,rfl,T.cl_Table,T.na_Table_depth,rfl,ea_nil ⟨intsT cs,(t.ownN k.1 : Nat),some (t.depth : Nat),rfl,ok_ints (by omega),?_⟩⟩) fun _=>?_
 ·have hcnt : countsD (intsT cs) (t.ownN k.1 : Nat) (some (t.depth : Nat)) = true := counts_ints (by rw [hcl]) fun x hx=>⟨(hcb x hx).1,decide_eq_true (hcb x hx).2⟩
  rw [hcnt]
  exact ⟨_,rfl,iteF ⟨rfl,trivial⟩⟩
 obtain ⟨r,hr,hro⟩ := rowAt_ex (o.rows _ hm) hcl hcb
 refine ws_ret<|ew_dgetkT<|ew_dgetkT<|ew_fld<|ew_var rfl ⟨"Table",_,_,rfl,T.cl_Table,T.na_Table_by_comer,rfl,ew_cb<|ea_cons<|ew_var rfl<|ea_nil<|opa_tuple hs ⟨keyP k,ps,rowsD rows,rfl,rfl,?_,ew_cb<|ea_cons<|ew_var rfl<|ea_nil<|opa_tuple rfl ⟨keyC cs,rows.map pairC,rowD r.1 r.2,(keyC_kD cs).symm,rfl,?_,qr r hr⟩⟩⟩
 ·rw [hh.2,dget_comers,mem_rowsAt o hm]; rfl
 ·rw [dget_rows,hr]; rfl
def T_Table_check_book : TSp := fun ds Q X=>∃ (t : TB) (ps : List (List Key × D)) (d : D),ds = [tabI t ps,d] /\ Ok d /\ ((BadB t d /\ X "BadBook" "book" d) \/ ((∃ b,BookD t d b) /\ Q (.sh .non)))
abbrev N_Table_check_book : List Str := ["self", "book"]
theorem S_Table_check_book : FnScope N_Table_check_book ["self", "book"] (defScope s_Table_check_book) := ⟨rfl,rfl,rfl,by decide +kernel,rfl,by decide +kernel,by decide +kernel⟩
theorem ok_Table_check_book (T : TX P K mg) : FnM P w K mg base 4 "Table" "check_book" ["self", "book"] (spU K (TSh T_Table_check_book)) := by
 obtain ⟨fd,F⟩ := T.F_Table_check_book
 have G_is_book := ok_is_book (P := P) (w := w) (base := base) T
 refine fn_SM (k := 3) F T.me_Table_check_book T.cl_Table (fun _ _ _ _ _ _ us hl=>match us,hl with | [_,_],_=>rfl) S_Table_check_book (fun ds Qd X h=>by first | (obtain ⟨rfl,_⟩ := h; rfl) | (obtain ⟨_,rfl,_⟩ := h; rfl) | (obtain ⟨_,_,rfl,_⟩ := h; rfl) | (obtain ⟨_,_,_,rfl,_⟩ := h; rfl) | (obtain ⟨_,_,_,_,rfl,_⟩ := h; rfl) | (obtain ⟨_,_,_,_,_,rfl,_⟩ := h; rfl) | (obtain ⟨_,_,_,_,_,_,rfl,_⟩ := h; rfl) | (obtain ⟨_,_,_,_,_,_,_,rfl,_⟩ := h; rfl) | (obtain ⟨_,_,_,_,_,_,_,_,rfl,_⟩ := h; rfl) | (obtain ⟨_,_,_,_,_,_,_,_,_,rfl,_⟩ := h; rfl) | (obtain ⟨_,_,_,_,_,_,_,_,_,_,rfl,_⟩ := h; rfl) | (obtain ⟨_,_,_,_,_,_,_,_,_,_,_,rfl,_⟩ := h; rfl)) fun cdv A outer s H W hcd hr tk po=>⟨_,(pss_one (ps_if (PW.pt (pw_or (pt_not (pt_val (pe_callF G_is_book (hr.mono (by first | decide | omega)) (pa_cons (pv 1) pa_nil)))) (pw_or (pt_cmpR op_ne (pe_callB (klen (K := K) rfl) (by rfl) T.n_len (by decide +kernel) (pa_cons (pe_ix (kix (K := K) rfl) (pv 1) pe_int (fun _ _=>rfl)) pa_nil)) (pe_callB (klen (K := K) rfl) (by rfl) T.n_len (by decide +kernel) (pa_cons (kfld (K := K) rfl (pv 0) rfl) pa_nil)) (nomark _)) (pw_or1 (pt_cmpR op_ne (pe_callB (klen (K := K) rfl) (by rfl) T.n_len (by decide +kernel) (pa_cons (pe_ix (kix (K := K) rfl) (pv 1) pe_int (fun _ _=>rfl)) pa_nil)) (pe_callB (klen (K := K) rfl) (by rfl) T.n_len (by decide +kernel) (pa_cons (kfld (K := K) rfl (pv 0) rfl) pa_nil)) (nomark _)))))) (pss_one (ps_raise rfl tk (pmk_sup (k := 0) T.S_BadBook (hr.mono (by first | decide | omega)) (by rfl) T.g_BadBook T.n_super (pv 1)))) pss_nil)),fun ds Qd X h=>?_⟩
 obtain ⟨t,ps,d,rfl,ok,q⟩ := h
 have lw : (strsD t.waits).length = t.waits.length := by unfold strsD; rw [List.length_map]
 have lf : (strsD t.frees).length = t.frees.length := by unfold strsD; rw [List.length_map]
 rcases q with ⟨hb,q⟩ | ⟨⟨b,hb⟩,q⟩
 ·refine ws_if<|et_or<|et_not<|et_B<|ew_callP<|ea_cons<|ew_var rfl<|ea_nil ⟨d,rfl,ok,_,rfl,?_⟩
  rcases hb with hb | ⟨hb,x,y,xs,ys,e,hx,hy,hl⟩
  ·rw [hb]
   exact iteT<|iteT<|ws_raise rfl<|ew_var rfl q
  rw [hb]
  refine iteF<|et_or<|et_test<|ew_op<|ew_cb<|ea_cons<|ew_op<|ew_var rfl<|ew_int<|op2_ix e rfl<|ea_nil<|opa_len hx<|ew_cb<|ea_cons<|ew_fld<|ew_var rfl ⟨"Table",_,_,rfl,T.cl_Table,T.na_Table_waits,rfl,ea_nil<|opa_len rfl<|op2_ne_int ⟨_,rfl,?_⟩⟩
  by_cases c : xs.length = t.waits.length
  ·rw [decide_eq_true (show (xs.length : Int) = (strsD t.waits).length by rw [lw]; omega)]
   refine iteF<|et_test<|ew_op<|ew_cb<|ea_cons<|ew_op<|ew_var rfl<|ew_int<|op2_ix e rfl<|ea_nil<|opa_len hy<|ew_cb<|ea_cons<|ew_fld<|ew_var rfl ⟨"Table",_,_,rfl,T.cl_Table,T.na_Table_frees,rfl,ea_nil<|opa_len rfl<|op2_ne_int ⟨_,rfl,?_⟩⟩
   rw [decide_eq_false (show ¬ (ys.length : Int) = (strsD t.frees).length by rw [lf]; omega)]
   exact iteT<|ws_raise rfl<|ew_var rfl q
  ·rw [decide_eq_false (show ¬ (xs.length : Int) = (strsD t.waits).length by rw [lw]; omega)]
   exact iteT<|iteT<|ws_raise rfl<|ew_var rfl q
 ·obtain ⟨x,y,e,hx,hy⟩ := hb.ex
  have h1 := hb.l1
  have h2 := hb.l2
  refine ws_ifn (C := True) (et_or<|et_not<|et_B<|ew_callP<|ea_cons<|ew_var rfl<|ea_nil ⟨d,rfl,ok,_,rfl,?_⟩) fun _=>q
  rw [hb.isB]
  refine iteF<|et_or<|et_test<|ew_op<|ew_cb<|ea_cons<|ew_op<|ew_var rfl<|ew_int<|op2_ix e rfl<|ea_nil<|opa_len hx<|ew_cb<|ea_cons<|ew_fld<|ew_var rfl ⟨"Table",_,_,rfl,T.cl_Table,T.na_Table_waits,rfl,ea_nil<|opa_len rfl<|op2_ne_int ⟨_,rfl,?_⟩⟩
  rw [decide_eq_true (show ((b.1.map D.int).length : Int) = (strsD t.waits).length by rw [lw,List.length_map]; omega)]
  refine iteF<|et_test<|ew_op<|ew_cb<|ea_cons<|ew_op<|ew_var rfl<|ew_int<|op2_ix e rfl<|ea_nil<|opa_len hy<|ew_cb<|ea_cons<|ew_fld<|ew_var rfl ⟨"Table",_,_,rfl,T.cl_Table,T.na_Table_frees,rfl,ea_nil<|opa_len rfl<|op2_ne_int ⟨_,rfl,?_⟩⟩
  rw [decide_eq_true (show ((b.2.map D.int).length : Int) = (strsD t.frees).length by rw [lf,List.length_map]; omega)]
  exact iteF ⟨rfl,trivial⟩
end
end K65
namespace K65
open PySem PySem.Spec PyProof.Rows L2 DL SrtK
variable [TabL]
theorem clip_len (dp : Int) (b : List Int) : (clip dp b).length = b.length := List.length_map ..
theorem clip_ok {dp : Int} (h : 0 <= dp) {b : List Int} (hb : ∀ x ∈ b,0 <= x) : ∀ x ∈ clip dp b,0 <= x /\ x <= dp := fun x hx=>by
 obtain ⟨i,hi,rfl⟩ := List.mem_map.mp hx
 have := hb i hi
 split <;> omega
def fMin (dp : Int) : D -> D
 | .int i=>.int (if dp < i then dp else i)
 | _=>.non
section
variable {P : Program} {w : World} {K : PySem.W.Frag} {mg : Str -> Option Value} {base : Heap}
def T_Table_after : TSp := fun ds Q X=>∃ (t : TB) (ps : List (List Key × D)) (d e : D),t.Ok /\ Held t ps /\ ds = [tabI t ps,d,e] /\ Ok d ∧
 ((BadB t d /\ X "BadBook" "book" d) \/ ∃ b,BookD t d b /\ Ok e /\ HeadS e /\ AftRes t b e (fun r=>Q (.sh r)) X)
abbrev N_Table_after : List Str := ["self", "book", "comer", "waits", "frees", "side", "seen", "taken", "rests", "one"]
theorem S_Table_after : FnScope N_Table_after ["self", "book", "comer"] (defScope s_Table_after) := ⟨rfl,rfl,rfl,by decide +kernel,rfl,by decide +kernel,by decide +kernel⟩
theorem ok_Table_after (T : TX P K mg) : FnM P w K mg base 5 "Table" "after" ["self", "book", "comer"] (spU K (TSh T_Table_after)) := by
 obtain ⟨fd,F⟩ := T.F_Table_after
 have M_Table_check_book := ok_Table_check_book (P := P) (w := w) (base := base) T
 have G_is_list := ok_is_list (P := P) (w := w) (base := base) T
 have M_Table_row := ok_Table_row (P := P) (w := w) (base := base) T
 have G_added := ok_added (P := P) (w := w) (base := base) T
 have G_less := ok_less (P := P) (w := w) (base := base) T
 refine fn_SM (k := 4) F T.me_Table_after T.cl_Table (fun _ _ _ _ _ _ us hl=>match us,hl with | [_,_,_],_=>rfl) S_Table_after (fun ds Qd X h=>by first | (obtain ⟨rfl,_⟩ := h; rfl) | (obtain ⟨_,rfl,_⟩ := h; rfl) | (obtain ⟨_,_,rfl,_⟩ := h; rfl) | (obtain ⟨_,_,_,rfl,_⟩ := h; rfl) | (obtain ⟨_,_,_,_,rfl,_⟩ := h; rfl) | (obtain ⟨_,_,_,_,_,rfl,_⟩ := h; rfl) | (obtain ⟨_,_,_,_,_,_,rfl,_⟩ := h; rfl) | (obtain ⟨_,_,_,_,_,_,_,rfl,_⟩ := h; rfl) | (obtain ⟨_,_,_,_,_,_,_,_,rfl,_⟩ := h; rfl) | (obtain ⟨_,_,_,_,_,_,_,_,_,rfl,_⟩ := h; rfl) | (obtain ⟨_,_,_,_,_,_,_,_,_,_,rfl,_⟩ := h; rfl) | (obtain ⟨_,_,_,_,_,_,_,_,_,_,_,rfl,_⟩ := h; rfl)) fun cdv A outer s H W hcd hr tk po=>⟨_,(pss_cons (ps_expr (kmethX (K := K) rfl M_Table_check_book tk (fun _ _ _ _ h=>h) (hr.mono (by first | decide | omega)) (pv 0) (pa_cons (pv 1) pa_nil)))
   (pss_cons (ps_par (i := 3) (j := 4) (by rfl) S_Table_after.nd rfl rfl (by decide) (by rfl) (by rfl) (pa_cons (pe_callTy (ktuple (K := K) rfl) (by rfl) T.n_tuple (by decide +kernel) (pa_cons (pe_ix (kix (K := K) rfl) (pv 1) pe_int (fun _ _=>rfl)) pa_nil)) (pa_cons (pe_callTy (ktuple (K := K) rfl) (by rfl) T.n_tuple (by decide +kernel) (pa_cons (pe_ix (kix (K := K) rfl) (pv 1) pe_int (fun _ _=>rfl)) pa_nil)) pa_nil)) (by rfl))
   (pss_cons (ps_set (i := 5) S_Table_after.nd rfl (by first | exact .inl rfl | exact .inr rfl) (pe_ifExp (PW.pt (pw_and (pt_val (pe_callF G_is_list (hr.mono (by first | decide | omega)) (pa_cons (pv 2) pa_nil))) (pw_and1 (pt_cmpR op_gt (pe_callB (klen (K := K) rfl) (by rfl) T.n_len (by decide +kernel) (pa_cons (pv 2) pa_nil)) pe_int (nomark _))))) (pe_ix (kix (K := K) rfl) (pv 2) pe_int (fun _ _=>rfl)) pe_non))
   (pss_cons (ps_set (i := 6) S_Table_after.nd rfl (by first | exact .inl rfl | exact .inr rfl) (pe_ifExp (pt_cmpR op_eq (pv 5) pe_str (nomark _)) (pv 4) (pv 3)))
   (pss_cons (ps_asg (kmethX (K := K) rfl M_Table_row tk (fun _ _ _ _ h=>h) (hr.mono (by first | decide | omega)) (pv 0) (pa_cons (pv 2) (pa_cons (pe_callTy (ktuple (K := K) rfl) (by rfl) T.n_tuple (by decide +kernel) (pa_cons (pe_lc (own := [("one",9)]) rfl S_Table_after.nd (kwU (K := K) rfl (pv 6)) (blkOk_by (own := [("one",9)]) (N := N_Table_after) (sc := defScope s_Table_after) (by decide +kernel)) (fun _ _ _ _ _=>(pg_name (i := 9) S_Table_after.nd rfl (by first | exact .inl rfl | exact .inr rfl))) (fun _ _ _ _ _=>pts_nil) (fun _ _ _ _ _=>(pe_callB (call_min2 rfl) (by rfl) T.n_min (by decide +kernel) (pa_cons (pv 9) (pa_cons (kfld (K := K) rfl (pv 0) rfl) pa_nil))))) pa_nil)) pa_nil))) (kgt (K := K) (n := 2) rfl rfl (pgs_cons (pg_name (i := 7) S_Table_after.nd rfl (by first | exact .inl rfl | exact .inr rfl)) (pgs_cons (pg_name (i := 8) S_Table_after.nd rfl (by first | exact .inl rfl | exact .inr rfl)) pgs_nil))))
   (pss_cons (ps_if (pt_cmpR op_eq (pv 5) pe_str (nomark _)) (pss_one (ps_ret (pe_tup (pa_cons (pe_callF G_added (hr.mono (by first | decide | omega)) (pa_cons (pv 3) (pa_cons (pv 8) pa_nil))) (pa_cons (pe_callF G_less (hr.mono (by first | decide | omega)) (pa_cons (pv 4) (pa_cons (pv 7) pa_nil))) pa_nil))))) pss_nil)
   (pss_one (ps_ret (pe_tup (pa_cons (pe_callF G_less (hr.mono (by first | decide | omega)) (pa_cons (pv 3) (pa_cons (pv 7) pa_nil))) (pa_cons (pe_callF G_added (hr.mono (by first | decide | omega)) (pa_cons (pv 4) (pa_cons (pv 8) pa_nil))) pa_nil))))))))))),fun ds Qd X h=>?_⟩
 obtain ⟨t,ps,d,e,o,hh,rfl,okd,q⟩ := h
 rcases q with ⟨hb,q⟩ | ⟨b,hb,oke,hse,q⟩
 ·exact ws_seq<|ws_dropX rfl<|ex_methS<|ew_var rfl ⟨_,rfl,rfl,ea_cons<|ew_var rfl<|ea_nil ⟨t,ps,d,rfl,okd,.inl ⟨hb,q⟩⟩⟩
 have hw3 := o.w1.2
 have hf3 := o.f1.2
 have h1 := hb.l1
 have h2 := hb.l2
 have hd0 : (0 : Int) <= (t.depth : Nat) := Int.natCast_nonneg _
 obtain ⟨x,y,es,hx,hy⟩ := hb.ex
 refine ws_seq<|ws_dropX rfl<|ex_methS<|ew_var rfl ⟨_,rfl,rfl,ea_cons<|ew_var rfl<|ea_nil ⟨t,ps,d,rfl,okd,.inr ⟨⟨b,hb⟩,?_⟩⟩⟩
 refine ws_seq<|ws_par<|ea_cons<|ew_cb<|ea_cons<|ew_op<|ew_var rfl<|ew_int<|op2_ix es rfl<|ea_nil<|opa_tuple hx<|ea_cons<|ew_cb<|ea_cons<|ew_op<|ew_var rfl<|ew_int<|op2_ix es rfl<|ea_nil<|opa_tuple hy<|ea_nil ⟨_,_,rfl,?_⟩
 refine ws_seq<|ws_asg<|ew_weak (Q₁ := fun m ρ1=>(m = .non /\ t.comerOf e = none \/ ∃ z,m = .str z /\ ∀ k rows,t.comerOf e = some (k,rows) -> z = k.1) /\ ρ1 = [.sh (tabI t ps),.sh d,.sh e,.sh (intsT b.1),.sh (intsT b.2),.un,.un,.un,.un,.un]) ?_ ?_
 ·refine ew_if<|et_and<|et_B<|ew_callP<|ea_cons<|ew_var rfl<|ea_nil ⟨e,rfl,oke.plain,_,rfl,?_⟩
  cases hs : e.seq with
  | none =>
   rw [seq_isList hs oke]
   exact iteF<|iteF<|ew_non ⟨.inl ⟨rfl,by unfold TB.comerOf; rw [hs]⟩,rfl⟩
  | some xs =>
   rw [seq_isList' hs]
   refine iteT<|et_test<|ew_op<|ew_cb<|ea_cons<|ew_var rfl<|ea_nil<|opa_len hs<|ew_int<|op2_cmp ⟨_,rfl,?_⟩
   rcases hse xs hs with rfl | ⟨z,r,rfl⟩
   ·exact iteF<|ew_non ⟨.inl ⟨rfl,by unfold TB.comerOf; rw [hs]⟩,rfl⟩
   ·rw [decide_eq_true (show (((D.str z :: r).length : Nat) : Int) > 0 by rw [List.length_cons]; omega)]
    refine iteT<|ew_op<|ew_var rfl<|ew_int<|op2_ix hs (atI_nat (j := 0) rfl) ⟨.inr ⟨z,rfl,fun k rows h=>?_⟩,rfl⟩
    have h1 := (comerOf_some h).1
    rw [hs] at h1
    cases h1; rfl
 rintro sd ρ1 ⟨hsd,rfl⟩
 refine gw_name<|ws_seq<|ws_asg<|ew_weak (Q₁ := fun m ρ1=>(∃ xs,m = intsT xs /\ (xs = b.1 \/ xs = b.2) /\ ∀ k rows,t.comerOf e = some (k,rows) -> xs = if k.1 = "person" then b.2 else b.1) /\ ρ1 = [.sh (tabI t ps),.sh d,.sh e,.sh (intsT b.1),.sh (intsT b.2),.sh sd,.un,.un,.un,.un]) ?_ ?_
 ·refine ew_if<|et_test<|ew_op<|ew_var rfl<|ew_str ?_
  rcases hsd with ⟨rfl,hn⟩ | ⟨z,rfl,hz⟩
  ·exact op2_eq_nonS ⟨_,rfl,iteF<|ew_var rfl ⟨⟨_,rfl,.inl rfl,fun k rows h=>by rw [hn] at h; cases h⟩,rfl⟩⟩
  ·refine op2_eq_str ⟨_,rfl,?_⟩
   by_cases c : z = ("person" : Str)
   ·rw [decide_eq_true c]
    exact iteT<|ew_var rfl ⟨⟨_,rfl,.inr rfl,fun k rows h=>by rw [<- hz k rows h,if_pos c]⟩,rfl⟩
   ·rw [decide_eq_false c]
    exact iteF<|ew_var rfl ⟨⟨_,rfl,.inl rfl,fun k rows h=>by rw [<- hz k rows h,if_neg c]⟩,rfl⟩
 rintro m ρ1 ⟨⟨xs,rfl,hxs,hxk⟩,rfl⟩
 have hp : (∀ i ∈ xs,0 <= i) /\ xs.length <= 3 := by
  rcases hxs with rfl | rfl
  ·exact ⟨hb.p1,by omega⟩
  ·exact ⟨hb.p2,by omega⟩
 have eclip : (xs.map D.int).map (fMin (t.depth : Nat)) = (clip (t.depth : Nat) xs).map D.int := by
  unfold clip
  rw [List.map_map,List.map_map]; rfl
 refine gw_name<|ws_seq<|ws_asgXG rfl<|ex_methS<|ew_var rfl ⟨_,rfl,rfl,ea_cons<|ew_var rfl<|ea_cons<|ew_cb<|ea_cons<|ew_new<|en_lcM (f := fMin (t.depth : Nat))<|ei_seq (intsT xs) rfl<|ew_var rfl ⟨rfl,rfl,by rw [List.length_map]; omega,fun i y hy=>?_,ea_nil<|opa_tuple rfl<|ea_nil ⟨t,ps,e,intsT (clip (t.depth : Nat) xs),o,hh,by rw [eclip]; rfl,oke,hse,?_⟩⟩⟩
 ·rw [List.getElem?_map] at hy
  obtain ⟨j,hj,rfl⟩ := Option.map_eq_some_iff.mp hy
  exact gv_name (by decide)<|ew_cb<|ea_cons<|ew_var rfl<|ea_cons<|ew_fld<|ew_var rfl ⟨"Table",_,_,rfl,T.cl_Table,T.na_Table_depth,rfl,ea_nil<|opa_min ⟨rfl,rfl⟩⟩
 unfold RowRes
 unfold AftRes at q
 cases ec : t.comerOf e with
 | none =>
  rw [ec] at q
  exact q
 | some p =>
  obtain ⟨k,rows⟩ := p
  rw [ec] at q
  have q : ∀ b',t.aft b k rows = some b' -> Qd (.sh (bookD b')) := q
  have hx2 := hxk k rows ec
  obtain ⟨z,rfl,rfl⟩ : ∃ z,sd = .str z /\ z = k.1 := by
   rcases hsd with ⟨_,hn⟩ | ⟨z,rfl,hz⟩
   ·rw [ec] at hn; cases hn
   ·exact ⟨z,rfl,hz k rows ec⟩
  refine ⟨clip (t.depth : Nat) xs,rfl,?_,clip_ok hd0 hp.1,fun r hr=>?_⟩
  ·rw [clip_len,hx2]
   unfold TB.ownN
   split
   ·exact h2
   ·exact h1
  obtain ⟨_,hcm⟩ := comerOf_some ec
  have hro := o.rows _ hcm
  refine gw_tup rfl<|gws_cons<|gw_name<|gws_cons<|gw_name<|gws_nil ?_
  by_cases c : k.1 = ("person" : Str)
  ·rw [if_pos c] at hx2
   have qq := q (zAdd b.1 r.2,zSub b.2 r.1) (by unfold TB.aft; rw [if_pos c,<- hx2,hr]; rfl)
   refine ws_seq<|ws_if<|et_test<|ew_op<|ew_var rfl<|ew_str<|op2_eq_str ⟨_,rfl,?_⟩
   rw [decide_eq_true c]
   exact iteT<|ws_ret<|ew_tup<|ea_cons<|ew_callP<|ea_cons<|ew_var rfl<|ea_cons<|ew_var rfl<|ea_nil ⟨b.1,r.2,rfl,by omega,ea_cons<|ew_callP<|ea_cons<|ew_var rfl<|ea_cons<|ew_var rfl<|ea_nil ⟨b.2,r.1,_,rfl,.inl rfl,by omega,ea_nil ⟨by show 2 <= 100000; decide,qq⟩⟩⟩
  ·rw [if_neg c] at hx2
   have qq := q (zSub b.1 r.1,zAdd b.2 r.2) (by unfold TB.aft; rw [if_neg c,<- hx2,hr]; rfl)
   refine ws_seq<|ws_ifn (C := True) (et_test<|ew_op<|ew_var rfl<|ew_str<|op2_eq_str ⟨_,rfl,?_⟩) fun _=>?_
   ·rw [decide_eq_false c]
    exact iteF ⟨rfl,trivial⟩
   exact ws_ret<|ew_tup<|ea_cons<|ew_callP<|ea_cons<|ew_var rfl<|ea_cons<|ew_var rfl<|ea_nil ⟨b.1,r.1,_,rfl,.inl rfl,by omega,ea_cons<|ew_callP<|ea_cons<|ew_var rfl<|ea_cons<|ew_var rfl<|ea_nil ⟨b.2,r.2,rfl,by omega,ea_nil ⟨by show 2 <= 100000; decide,qq⟩⟩⟩
end
end K65
namespace K65
open PySem PySem.Spec PyProof.Rows L2 DL SrtK
variable [TabL]
structure BkOk (t : TB) (b : List Int × List Int) : Prop where
 l1 : b.1.length = t.waits.length
 l2 : b.2.length = t.frees.length
 p1 : ∀ x ∈ b.1,0 <= x
 p2 : ∀ x ∈ b.2,0 <= x
theorem BkOk.bookD {t : TB} {b : List Int × List Int} (h : BkOk t b) : BookD t (bookD b) b := ⟨⟨_,_,rfl,rfl,rfl⟩,h.l1,h.l2,h.p1,h.p2⟩
theorem BookD.bk {t : TB} {d : D} {b : List Int × List Int} (h : BookD t d b) : BkOk t b := ⟨h.l1,h.l2,h.p1,h.p2⟩
theorem zAdd_ok {xs ys : List Int} (hl : ys.length = xs.length) (hx : ∀ x ∈ xs,0 <= x) (hy : ∀ y ∈ ys,0 <= y) : (zAdd xs ys).length = xs.length /\ ∀ z ∈ zAdd xs ys,0 <= z := by
 refine ⟨by unfold zAdd; rw [List.length_zipWith]; omega,fun z hz=>?_⟩
 obtain ⟨i,hi⟩ := List.mem_iff_getElem?.mp hz
 unfold zAdd at hi
 rw [List.getElem?_zipWith] at hi
 cases h1 : xs[i]? with
 | none=>rw [h1] at hi; simp at hi
 | some a =>
  cases h2 : ys[i]? with
  | none=>rw [h1,h2] at hi; simp at hi
  | some c =>
   rw [h1,h2] at hi
   have := hx a (List.mem_of_getElem? h1)
   have := hy c (List.mem_of_getElem? h2)
   simp at hi
   omega
theorem zSub_ok {dp : Int} {xs tk : List Int} (hl : tk.length = xs.length) (hle : ∀ (i : Nat) (a c : Int),tk[i]? = some a -> (clip dp xs)[i]? = some c -> a <= c) : (zSub xs tk).length = xs.length /\ ∀ z ∈ zSub xs tk,0 <= z := by
 refine ⟨by unfold zSub; rw [List.length_zipWith]; omega,fun z hz=>?_⟩
 obtain ⟨i,hi⟩ := List.mem_iff_getElem?.mp hz
 unfold zSub at hi
 rw [List.getElem?_zipWith] at hi
 cases h1 : xs[i]? with
 | none=>rw [h1] at hi; simp at hi
 | some a =>
  cases h2 : tk[i]? with
  | none=>rw [h1,h2] at hi; simp at hi
  | some c =>
   rw [h1,h2] at hi
   have h3 : c <= if dp < a then dp else a := hle i c _ h2 (by unfold clip; rw [List.getElem?_map,h1]; rfl)
   simp at hi
   split at h3 <;> omega
theorem aft_ok {t : TB} (o : t.Ok) {b b' : List Int × List Int} (h : BkOk t b) {k : Str × Str} {rows : List RowT} (hm : (k,rows) ∈ t.cs) (e : t.aft b k rows = some b') : BkOk t b' := by
 have hd0 : (0 : Int) <= (t.depth : Nat) := Int.natCast_nonneg _
 have hr := o.rows _ hm
 have h1 := h.l1
 have h2 := h.l2
 unfold TB.aft at e
 by_cases c : k.1 = ("person" : Str)
 ·rw [if_pos c] at e
  obtain ⟨r,hr1,rfl⟩ := Option.map_eq_some_iff.mp e
  have ho : RowOk (clip (t.depth : Nat) b.2) (t.otherN k.1) r.1 r.2 := hr.ok _ (rowAt_mem hr1)
  have l1 := ho.len
  have l2 := ho.lenR
  rw [clip_len] at l1
  unfold TB.otherN at l2
  rw [if_pos c] at l2
  obtain ⟨a1,a2⟩ := zAdd_ok (xs := b.1) (ys := r.2) (by omega) h.p1 ho.posR
  obtain ⟨s1,s2⟩ := zSub_ok (xs := b.2) (tk := r.1) l1 ho.le
  exact ⟨by show (zAdd b.1 r.2).length = _; omega,by show (zSub b.2 r.1).length = _; omega,a2,s2⟩
 ·rw [if_neg c] at e
  obtain ⟨r,hr1,rfl⟩ := Option.map_eq_some_iff.mp e
  have ho : RowOk (clip (t.depth : Nat) b.1) (t.otherN k.1) r.1 r.2 := hr.ok _ (rowAt_mem hr1)
  have l1 := ho.len
  have l2 := ho.lenR
  rw [clip_len] at l1
  unfold TB.otherN at l2
  rw [if_neg c] at l2
  obtain ⟨a1,a2⟩ := zAdd_ok (xs := b.2) (ys := r.2) (by omega) h.p2 ho.posR
  obtain ⟨s1,s2⟩ := zSub_ok (xs := b.1) (tk := r.1) l1 ho.le
  exact ⟨by show (zSub b.1 r.1).length = _; omega,by show (zAdd b.2 r.2).length = _; omega,s2,a2⟩
theorem aft_ex {t : TB} (o : t.Ok) {b : List Int × List Int} (h : BkOk t b) {k : Str × Str} {rows : List RowT} (hm : (k,rows) ∈ t.cs) : ∃ b',t.aft b k rows = some b' := by
 have hd0 : (0 : Int) <= (t.depth : Nat) := Int.natCast_nonneg _
 have hr := o.rows _ hm
 unfold TB.aft
 by_cases c : k.1 = ("person" : Str)
 ·obtain ⟨r,hr1,_⟩ := rowAt_ex hr (cs := clip (t.depth : Nat) b.2) (by rw [clip_len,h.l2]; unfold TB.ownN; rw [if_pos c]) (clip_ok hd0 h.p2)
  exact ⟨_,by rw [if_pos c,hr1]; rfl⟩
 ·obtain ⟨r,hr1,_⟩ := rowAt_ex hr (cs := clip (t.depth : Nat) b.1) (by rw [clip_len,h.l1]; unfold TB.ownN; rw [if_neg c]) (clip_ok hd0 h.p1)
  exact ⟨_,by rw [if_neg c,hr1]; rfl⟩
theorem okN_seq {n : Nat} {d : D} {xs : List D} (e : d.seq = some xs) (hl : xs.length <= 1000) (h : ∀ x ∈ xs,OkN n x) : OkN (n + 1) d := by
 cases d with
 | lst ys=>cases e; exact .lst hl h
 | tup ys=>cases e; exact .tup hl h
 | _=>cases e
theorem okN_seqI {n : Nat} {d : D} {xs : List Int} (e : seqIs d xs) (hl : xs.length <= 1000) : OkN (n + 1) d := okN_seq e (by rw [List.length_map]; exact hl) fun x hx=>by
 obtain ⟨i,_,rfl⟩ := List.mem_map.mp hx
 exact .int i
theorem BookD.okN {t : TB} (o : t.Ok) {d : D} {b : List Int × List Int} (h : BookD t d b) {n : Nat} : OkN (n + 2) d := by
 obtain ⟨x,y,e,hx,hy⟩ := h.ex
 have := o.w1
 have := o.f1
 have := h.l1
 have := h.l2
 exact okN_seq e (by show 2 <= 1000; decide) (mem2 (okN_seqI hx (by omega)) (okN_seqI hy (by omega)))
end K65
namespace K65
open PySem PySem.Spec PyProof.Rows L2 DL SrtK
variable [TabL]
def absI (g : Int) : Int := if g < 0 then -g else g
def distB (b c : List Int × List Int) : Int := ((zSub b.1 c.1 ++ zSub b.2 c.2).map absI).sum
structure Pos2 (b : List Int × List Int) : Prop where
 p1 : ∀ x ∈ b.1,0 <= x
 p2 : ∀ x ∈ b.2,0 <= x
 s1 : b.1.length <= 10
 s2 : b.2.length <= 10
theorem Pos2.isB {b : List Int × List Int} (h : Pos2 b) {d x y : D} (e : d.seq = some [x,y]) (hx : seqIs x b.1) (hy : seqIs y b.2) : bookB d = true := by
 unfold bookB
 rw [e]
 have : ∀ {x : D} {xs : List Int},seqIs x xs -> (∀ z ∈ xs,0 <= z) -> halfB x = true := fun {x xs} hx hp=>by
  unfold halfB
  rw [hx]
  exact counts_seq hx (by rw [List.length_map]) fun z hz=>⟨hp z hz,rfl⟩
 show (_ && (_ && (_ && true))) = true
 rw [this hx h.p1,this hy h.p2]; rfl
def ApartRes (x y : D) (Q : Int -> Prop) (X : Str -> Str -> D -> Prop) : Prop :=
 (bookB x = false /\ X "BadBook" "book" x) \/ ∃ b,Pos2 b /\ x = bookD b ∧
  ((bookB y = false /\ X "BadBook" "book" y) \/ ∃ c u v,Pos2 c /\ seqIs u c.1 /\ seqIs v c.2 ∧
   ((y = .tup [u,v] /\ (b.1.length ≠ c.1.length \/ b.2.length ≠ c.2.length) /\ X "BadBook" "book" y) \/
    ((y = .tup [intsT c.1,intsT c.2] \/ y = .lst [.lst (c.1.map D.int),.lst (c.2.map D.int)]) /\ b.1.length = c.1.length /\ b.2.length = c.2.length /\ Q (distB b c))))
theorem pyI_ints (xs : List Int) : PyI 1 (.lst (xs.map D.int)) := .lst fun x hx=>by
 obtain ⟨i,_,rfl⟩ := List.mem_map.mp hx
 exact .int i
def fLen (d : D) : D := match d.seq with
 | some xs=>.int xs.length
 | none=>.non
section
variable {P : Program} {w : World} {K : PySem.W.Frag} {mg : Str -> Option Value} {base : Heap}
def T_apart : TSp := fun ds Q X=>∃ (x y : D),ds = [x,y] /\ Ok x /\ Ok y /\ ApartRes x y (fun i=>Q (.sh (.int i))) X
abbrev N_apart : List Str := ["one", "other", "gaps", "half", "first", "second", "gap"]
theorem S_apart : FnScope N_apart ["one", "other"] (defScope s_apart) := ⟨rfl,rfl,rfl,by decide +kernel,rfl,by decide +kernel,by decide +kernel⟩
theorem ok_apart (T : TX P K mg) : FnX P w K mg base 4 "apart" ["one", "other"] (spU K (TSh T_apart)) := by
 obtain ⟨fd,F⟩ := T.F_apart
 have G_is_book := ok_is_book (P := P) (w := w) (base := base) T
 have G_less := ok_less (P := P) (w := w) (base := base) T
 refine fn_SX (k := 3) F T.g_apart (fun _ _ _ _ _ _ us hl=>match us,hl with | [_,_],_=>rfl) S_apart (fun ds Qd X h=>by first | (obtain ⟨rfl,_⟩ := h; rfl) | (obtain ⟨_,rfl,_⟩ := h; rfl) | (obtain ⟨_,_,rfl,_⟩ := h; rfl) | (obtain ⟨_,_,_,rfl,_⟩ := h; rfl) | (obtain ⟨_,_,_,_,rfl,_⟩ := h; rfl) | (obtain ⟨_,_,_,_,_,rfl,_⟩ := h; rfl) | (obtain ⟨_,_,_,_,_,_,rfl,_⟩ := h; rfl) | (obtain ⟨_,_,_,_,_,_,_,rfl,_⟩ := h; rfl) | (obtain ⟨_,_,_,_,_,_,_,_,rfl,_⟩ := h; rfl) | (obtain ⟨_,_,_,_,_,_,_,_,_,rfl,_⟩ := h; rfl) | (obtain ⟨_,_,_,_,_,_,_,_,_,_,rfl,_⟩ := h; rfl) | (obtain ⟨_,_,_,_,_,_,_,_,_,_,_,rfl,_⟩ := h; rfl)) fun cdv A outer s H W hcd hr tk po=>⟨_,(pss_cons (ps_if (pt_not (pt_val (pe_callF G_is_book (hr.mono (by first | decide | omega)) (pa_cons (pv 0) pa_nil)))) (pss_one (ps_raise rfl tk (pmk_sup (k := 0) T.S_BadBook (hr.mono (by first | decide | omega)) (by rfl) T.g_BadBook T.n_super (pv 0)))) pss_nil)
   (pss_cons (ps_if (PW.pt (pw_or (pt_not (pt_val (pe_callF G_is_book (hr.mono (by first | decide | omega)) (pa_cons (pv 1) pa_nil)))) (pw_or1 (pt_cmpR (kneD (K := K) rfl hr.units) (pe_lc (own := [("half",3)]) rfl S_apart.nd (kwU (K := K) rfl (pv 0)) (blkOk_by (own := [("half",3)]) (N := N_apart) (sc := defScope s_apart) (by decide +kernel)) (fun _ _ _ _ _=>(pg_name (i := 3) S_apart.nd rfl (by first | exact .inl rfl | exact .inr rfl))) (fun _ _ _ _ _=>pts_nil) (fun _ _ _ _ _=>(pe_callB (klen (K := K) rfl) (by rfl) T.n_len (by decide +kernel) (pa_cons (pv 3) pa_nil)))) (pe_lc (own := [("half",3)]) rfl S_apart.nd (kwU (K := K) rfl (pv 1)) (blkOk_by (own := [("half",3)]) (N := N_apart) (sc := defScope s_apart) (by decide +kernel)) (fun _ _ _ _ _=>(pg_name (i := 3) S_apart.nd rfl (by first | exact .inl rfl | exact .inr rfl))) (fun _ _ _ _ _=>pts_nil) (fun _ _ _ _ _=>(pe_callB (klen (K := K) rfl) (by rfl) T.n_len (by decide +kernel) (pa_cons (pv 3) pa_nil)))) (nomark _))))) (pss_one (ps_raise rfl tk (pmk_sup (k := 0) T.S_BadBook (hr.mono (by first | decide | omega)) (by rfl) T.g_BadBook T.n_super (pv 1)))) pss_nil)
   (pss_cons (ps_setLc (i := 2) (own := [("first",4),("second",5)]) rfl S_apart.nd rfl rfl (sw_true rfl rfl rfl (by decide +kernel)) (ZM.kzipM (K := K) rfl (by rfl) T.n_zip (pa_cons (pv 0) (pa_cons (pv 1) pa_nil))) (blkOk_by (own := [("first",4),("second",5)]) (N := N_apart) (sc := defScope s_apart) (by decide +kernel)) (fun _ _ _ _ _=>(kgt (K := K) (n := 2) rfl rfl (pgs_cons (pg_name (i := 4) S_apart.nd rfl (by first | exact .inl rfl | exact .inr rfl)) (pgs_cons (pg_name (i := 5) S_apart.nd rfl (by first | exact .inl rfl | exact .inr rfl)) pgs_nil)))) (fun _ _ _ _ _=>pts_nil) (fun _ _ _ _ _=>(pe_callF G_less (hr.mono (by first | decide | omega)) (pa_cons (pv 4) (pa_cons (pv 5) pa_nil)))))
   (pss_one (ps_ret (pe_callB (ksum rfl (K := K) rfl) (by rfl) T.n_sum (by decide +kernel) (pa_cons (pe_lc2 (own := [("half",3),("gap",6)]) (vs1 := [6]) rfl S_apart.nd (kwU (K := K) rfl (pv 2)) (blkOk_by (own := [("half",3),("gap",6)]) (N := N_apart) (sc := defScope s_apart) (by decide +kernel)) (by decide) (fun _ _ _ _ _=>(pg_name (i := 3) S_apart.nd rfl (by first | exact .inl rfl | exact .inr rfl))) (fun _ _ _ _ _=>pts_nil) (fun _ _ _ _ _=>(kwU (K := K) rfl (pv 3))) (fun _ _ _ _ _=>(pg_name (i := 6) S_apart.nd rfl (by first | exact .inl rfl | exact .inr rfl))) (fun _ _ _ _ _=>pts_nil) (fun _ _ _ _ _=>(pe_callB call_abs (by rfl) T.n_abs (by decide +kernel) (pa_cons (pv 6) pa_nil)))) pa_nil))))))),fun ds Qd X h=>?_⟩
 obtain ⟨x,y,rfl,ox,oy,q⟩ := h
 rcases q with ⟨hb,q⟩ | ⟨b,hb,rfl,q⟩
 ·refine ws_seq<|ws_if<|et_not<|et_B<|ew_callP<|ea_cons<|ew_var rfl<|ea_nil ⟨_,rfl,ox,_,rfl,?_⟩
  rw [hb]
  exact iteT<|ws_raise rfl<|ew_var rfl q
 refine ws_seq<|ws_ifn (C := True) (et_not<|et_B<|ew_callP<|ea_cons<|ew_var rfl<|ea_nil ⟨_,rfl,ox,_,rfl,?_⟩) fun _=>?_
 ·rw [hb.isB (d := bookD b) (x := intsT b.1) (y := intsT b.2) rfl rfl rfl]
  exact iteF ⟨rfl,trivial⟩
 have hb1 := hb.s1
 have hb2 := hb.s2
 rcases q with ⟨hc,q⟩ | ⟨c,u,v,hc,hu,hv,q⟩
 ·refine ws_seq<|ws_if<|et_or<|et_not<|et_B<|ew_callP<|ea_cons<|ew_var rfl<|ea_nil ⟨_,rfl,oy,_,rfl,?_⟩
  rw [hc]
  exact iteT<|iteT<|ws_raise rfl<|ew_var rfl q
 have hc1 := hc.s1
 have hc2 := hc.s2
 have fl : ∀ {x : D} {xs : List Int},seqIs x xs -> fLen x = .int (xs.length : Nat) := fun {x xs} h=>by
  unfold fLen
  rw [h]
  show D.int ((xs.map D.int).length : Nat) = _
  rw [List.length_map]
 have e1 : [intsT b.1,intsT b.2].map fLen = ([((b.1.length : Nat) : Int),((b.2.length : Nat) : Int)]).map D.int := by
  rw [List.map_cons,List.map_cons,fl (x := intsT b.1) rfl,fl (x := intsT b.2) rfl]; rfl
 have e2 : ∀ {u v : D},seqIs u c.1 -> seqIs v c.2 -> [u,v].map fLen = ([((c.1.length : Nat) : Int),((c.2.length : Nat) : Int)]).map D.int := fun {u v} hu hv=>by
  rw [List.map_cons,List.map_cons,fl hu,fl hv]; rfl
 have t2 : ∀ {u v : D} {xs ys : List Int},seqIs u xs -> seqIs v ys -> ∀ (i : Nat) d,[u,v][i]? = some d -> ∃ zs : List Int,seqIs d zs := fun {u v xs ys} hu hv i d hd=>by
  rcases List.mem_cons.mp (List.mem_of_getElem? hd) with rfl | hd
  ·exact ⟨_,hu⟩
  ·rw [List.mem_singleton.mp hd]; exact ⟨_,hv⟩
 have key : ∀ {u v : D},seqIs u c.1 -> seqIs v c.2 -> ((decide (b.1.length = c.1.length /\ b.2.length = c.2.length)) = true ↔ D.lst ([intsT b.1,intsT b.2].map fLen) = D.lst ([u,v].map fLen)) := fun {u v} hu hv=>by
  rw [e1,e2 hu hv]
  simp only [List.map_cons,List.map_nil,D.lst.injEq,List.cons.injEq,D.int.injEq,and_true,decide_eq_true_eq]
  omega
 rcases q with ⟨rfl,hne,q⟩ | ⟨hy,hl1,hl2,q⟩
 ·refine ws_seq<|ws_if<|et_or<|et_not<|et_B<|ew_callP<|ea_cons<|ew_var rfl<|ea_nil ⟨_,rfl,oy,_,rfl,?_⟩
  rw [hc.isB (d := .tup [u,v]) rfl hu hv]
  refine iteF<|et_test<|ew_op<|ew_new<|en_lcM (f := fLen)<|ei_seq (bookD b) rfl<|ew_var rfl ⟨rfl,rfl,by show 2 <= 90000; decide,fun i d hd=>?_,ew_new<|en_lcM (f := fLen)<|ei_seq (.tup [u,v]) rfl<|ew_var rfl ⟨rfl,rfl,by show 2 <= 90000; decide,fun i d hd=>?_,op2_neI (n := 1) (m := 1) (b := decide (b.1.length = c.1.length /\ b.2.length = c.2.length)) (by rw [e1]; exact pyI_ints _) (by rw [e2 hu hv]; exact pyI_ints _) (by decide) (by decide) (key hu hv) ⟨_,rfl,?_⟩⟩⟩
  ·obtain ⟨zs,hz⟩ := t2 (u := intsT b.1) (v := intsT b.2) rfl rfl i d hd
   refine gv_name (by decide)<|ew_cb<|ea_cons<|ew_var rfl<|ea_nil<|opa_len hz ⟨rfl,?_⟩
   rw [fl hz,List.length_map]
  ·obtain ⟨zs,hz⟩ := t2 hu hv i d hd
   refine gv_name (by decide)<|ew_cb<|ea_cons<|ew_var rfl<|ea_nil<|opa_len hz ⟨rfl,?_⟩
   rw [fl hz,List.length_map]
  ·rw [decide_eq_false (by omega)]
   exact iteT<|ws_raise rfl<|ew_var rfl q
 have hu1 : ∃ u v,y.seq = some [u,v] /\ (u = intsT c.1 /\ v = intsT c.2 \/ u = .lst (c.1.map D.int) /\ v = .lst (c.2.map D.int)) := by
  rcases hy with rfl | rfl
  ·exact ⟨_,_,rfl,.inl ⟨rfl,rfl⟩⟩
  ·exact ⟨_,_,rfl,.inr ⟨rfl,rfl⟩⟩
 obtain ⟨u,v,ey,huv⟩ := hu1
 have hu : seqIs u c.1 := by rcases huv with ⟨rfl,rfl⟩ | ⟨rfl,rfl⟩ <;> rfl
 have hv : seqIs v c.2 := by rcases huv with ⟨rfl,rfl⟩ | ⟨rfl,rfl⟩ <;> rfl
 refine ws_seq<|ws_ifn (C := True) (et_or<|et_not<|et_B<|ew_callP<|ea_cons<|ew_var rfl<|ea_nil ⟨_,rfl,oy,_,rfl,?_⟩) fun _=>?_
 ·rw [hc.isB ey hu hv]
  refine iteF<|et_test<|ew_op<|ew_new<|en_lcM (f := fLen)<|ei_seq (bookD b) rfl<|ew_var rfl ⟨rfl,rfl,by show 2 <= 90000; decide,fun i d hd=>?_,ew_new<|en_lcM (f := fLen)<|ei_seq y ey<|ew_var rfl ⟨rfl,rfl,by show 2 <= 90000; decide,fun i d hd=>?_,op2_neI (n := 1) (m := 1) (b := decide (b.1.length = c.1.length /\ b.2.length = c.2.length)) (by rw [e1]; exact pyI_ints _) (by rw [e2 hu hv]; exact pyI_ints _) (by decide) (by decide) (key hu hv) ⟨_,rfl,?_⟩⟩⟩
  ·obtain ⟨zs,hz⟩ := t2 (u := intsT b.1) (v := intsT b.2) rfl rfl i d hd
   refine gv_name (by decide)<|ew_cb<|ea_cons<|ew_var rfl<|ea_nil<|opa_len hz ⟨rfl,?_⟩
   rw [fl hz,List.length_map]
  ·obtain ⟨zs,hz⟩ := t2 hu hv i d hd
   refine gv_name (by decide)<|ew_cb<|ea_cons<|ew_var rfl<|ea_nil<|opa_len hz ⟨rfl,?_⟩
   rw [fl hz,List.length_map]
  ·rw [decide_eq_true (show _ /\ _ from ⟨hl1,hl2⟩)]
   exact iteF ⟨rfl,trivial⟩
 have hgap : ∀ (i : Nat) d,(zipD [intsT b.1,intsT b.2] [u,v])[i]? = some d -> ∃ (xs ys : List Int) (z : D),d = .tup [intsT xs,z] /\ (z = intsT ys \/ z = .lst (ys.map D.int)) /\ xs.length <= 1000 /\ intsT (zSub xs ys) = (fun i : Nat=>if i = 0 then intsT (zSub b.1 c.1) else intsT (zSub b.2 c.2)) i := fun i d hd=>by
  obtain ⟨p,r,h1,h2,rfl⟩ := zipD_at hd
  match i,h1,h2 with
  | 0,h1,h2 =>
   cases h1
   cases h2
   exact ⟨b.1,c.1,_,rfl,by rcases huv with ⟨rfl,_⟩ | ⟨rfl,_⟩ <;> simp,by omega,rfl⟩
  | 1,h1,h2 =>
   cases h1
   cases h2
   exact ⟨b.2,c.2,_,rfl,by rcases huv with ⟨_,rfl⟩ | ⟨_,rfl⟩ <;> simp,by omega,rfl⟩
  | i + 2,h1,h2=>cases h1
 have hs1 : (zSub b.1 c.1).length <= 10 := by unfold zSub; rw [List.length_zipWith]; omega
 have hs2 : (zSub b.2 c.2).length <= 10 := by unfold zSub; rw [List.length_zipWith]; omega
 have e3 : (List.range (zipD [intsT b.1,intsT b.2] [u,v]).length).map (fun i : Nat=>if i = 0 then intsT (zSub b.1 c.1) else intsT (zSub b.2 c.2)) = [intsT (zSub b.1 c.1),intsT (zSub b.2 c.2)] := by
  rw [zipD_len]; rfl
 refine ws_mid (fun ρ'=>ρ' = [.sh (bookD b),.sh y,.sh (.lst [intsT (zSub b.1 c.1),intsT (zSub b.2 c.2)]),.un,.un,.un,.un]) ?_ fun ρ' hρ=>?_
 ·rcases hy with rfl | rfl
  ·cases ey
   refine ws_asg<|ew_new<|en_lcG (fun i : Nat=>if i = 0 then intsT (zSub b.1 c.1) else intsT (zSub b.2 c.2))<|ei_zipM<|ea_cons<|ew_var rfl<|ea_cons<|ew_var rfl<|ea_nil ⟨_,_,.inr rfl,rfl,by rw [zipD_len]; show min 2 2 <= 90000; decide,fun i d hd=>?_,gw_name ?_⟩
   ·obtain ⟨xs,ys,z,rfl,hz,hl,e⟩ := hgap i d hd
    exact gv_tup rfl<|gvs_cons<|gv_name (by decide)<|gvs_cons<|gv_name (by decide)<|gvs_nil<|ew_callP<|ea_cons<|ew_var rfl<|ea_cons<|ew_var rfl<|ea_nil ⟨xs,ys,z,rfl,hz,hl,rfl,e⟩
   ·rw [e3]; rfl
  ·cases ey
   refine ws_asg<|ew_new<|en_lcG (fun i : Nat=>if i = 0 then intsT (zSub b.1 c.1) else intsT (zSub b.2 c.2))<|ei_zipTL<|ea_cons<|ew_var rfl<|ea_cons<|ew_var rfl<|ea_nil ⟨_,_,rfl,rfl,by rw [zipD_len]; show min 2 2 <= 90000; decide,fun i d hd=>?_,gw_name ?_⟩
   ·obtain ⟨xs,ys,z,rfl,hz,hl,e⟩ := hgap i d hd
    exact gv_tup rfl<|gvs_cons<|gv_name (by decide)<|gvs_cons<|gv_name (by decide)<|gvs_nil<|ew_callP<|ea_cons<|ew_var rfl<|ea_cons<|ew_var rfl<|ea_nil ⟨xs,ys,z,rfl,hz,hl,rfl,e⟩
   ·rw [e3]; rfl
 subst hρ
 refine ws_ret<|ew_cb<|ea_cons<|ew_new<|en_lc2<|ei_seq (.lst [intsT (zSub b.1 c.1),intsT (zSub b.2 c.2)]) rfl<|ew_var rfl ⟨rfl,rfl,by show 2 <= 90000; decide,fun n acc=>acc = (([zSub b.1 c.1,zSub b.2 c.2].take n).flatten).map fun g=>D.int (absI g),rfl,fun n d acc hd hp=>?_,fun acc hp=>ea_nil ?_⟩
 ·obtain ⟨g,hg,rfl⟩ : ∃ g,[zSub b.1 c.1,zSub b.2 c.2][n]? = some g /\ d = intsT g := by
   have hd : ([zSub b.1 c.1,zSub b.2 c.2].map intsT)[n]? = some d := hd
   rw [List.getElem?_map] at hd
   obtain ⟨g,hg,rfl⟩ := Option.map_eq_some_iff.mp hd
   exact ⟨g,hg,rfl⟩
  have hgl : g.length <= 10 := by
   rcases List.mem_cons.mp (List.mem_of_getElem? hg) with rfl | hm
   ·exact hs1
   ·rw [List.mem_singleton.mp hm]; exact hs2
  have hal : acc.length <= 20 := by
   rw [hp,List.length_map]
   have hn : n < 2 := (List.getElem?_eq_some_iff.mp hg).1
   match n,hn with
   | 0,_=>simp
   | 1,_=>simp; omega
  refine gv_name (by decide)<|ei_seq (intsT g) rfl<|ew_var rfl ⟨rfl,rfl,rfl,fun j acc1=>acc1 = acc ++ (g.take j).map fun x=>D.int (absI x),by simp,fun j e acc1 he hp1=>⟨?_,?_⟩,fun acc1 hp1=>?_⟩
  ·rw [hp1,List.length_append,List.length_map,List.length_take]; omega
  ·rw [List.getElem?_map] at he
   obtain ⟨x,hx,rfl⟩ := Option.map_eq_some_iff.mp he
   refine gv_name (by decide)<|ew_cb<|ea_cons<|ew_var rfl<|ea_nil<|opa_abs ⟨rfl,?_⟩
   show acc1 ++ [D.int (absI x)] = acc ++ (g.take (j + 1)).map fun x=>D.int (absI x)
   rw [hp1,take_snoc hx,List.map_append,List.append_assoc]; rfl
  ·show acc1 = (([zSub b.1 c.1,zSub b.2 c.2].take (n + 1)).flatten).map fun g=>D.int (absI g)
   rw [hp1,List.length_map,List.take_length,hp,take_snoc hg,List.flatten_append,List.map_append]
   simp
 ·rw [hp]
  have e : (([zSub b.1 c.1,zSub b.2 c.2].take [intsT (zSub b.1 c.1),intsT (zSub b.2 c.2)].length).flatten).map (fun g=>D.int (absI g)) = ((zSub b.1 c.1 ++ zSub b.2 c.2).map absI).map D.int := by
   rw [List.map_map]
   show (List.flatten [zSub b.1 c.1,zSub b.2 c.2]).map _ = _
   simp only [List.flatten_cons,List.flatten_nil,List.append_nil]
   rfl
  rw [e]
  exact opa_sum q
end
end K65
namespace K65
open PySem PySem.Spec PyProof.Rows L2 DL SrtK
variable [TabL]
abbrev Bk := List Int × List Int
def inc : List Int -> Nat -> Int -> List Int
 | [],_,_=>[]
 | x :: xs,0,v=>(x + v) :: xs
 | x :: xs,i + 1,v=>x :: inc xs i v
theorem inc_len : ∀ (xs : List Int) (i : Nat) (v : Int),(inc xs i v).length = xs.length
 | [],_,_=>rfl
 | _ :: _,0,_=>rfl
 | x :: xs,i + 1,v=>by show (inc xs i v).length + 1 = xs.length + 1; rw [inc_len xs i v]
theorem inc_inc : ∀ (xs : List Int) (i : Nat) (v w : Int),inc (inc xs i v) i w = inc xs i (v + w)
 | [],_,_,_=>rfl
 | x :: xs,0,v,w=>by show (x + v + w) :: xs = (x + (v + w)) :: xs; rw [Int.add_assoc]
 | x :: xs,i + 1,v,w=>by show x :: inc (inc xs i v) i w = _; rw [inc_inc xs i v w]; rfl
theorem inc_zero : ∀ (xs : List Int) (i : Nat),inc xs i 0 = xs
 | [],_=>rfl
 | x :: xs,0=>by show (x + 0) :: xs = _; rw [Int.add_zero]
 | x :: xs,i + 1=>by show x :: inc xs i 0 = _; rw [inc_zero xs i]
theorem inc_at : ∀ {xs : List Int} {i : Nat} {v x : Int},xs[i]? = some x -> (inc xs i v)[i]? = some (x + v)
 | [],_,_,_,h=>by simp at h
 | a :: xs,0,v,x,h=>by cases h; rfl
 | a :: xs,i + 1,v,x,h=>by
  show (a :: inc xs i v)[i + 1]? = _
  rw [List.getElem?_cons_succ] at h ⊢
  exact inc_at h
theorem inc_mem : ∀ {xs : List Int} {i : Nat} {v y : Int},y ∈ inc xs i v -> y ∈ xs \/ ∃ x,xs[i]? = some x /\ y = x + v
 | [],_,_,_,h=>by cases h
 | a :: xs,0,v,y,h=>by
  rcases List.mem_cons.mp h with rfl | h
  ·exact .inr ⟨a,rfl,rfl⟩
  ·exact .inl (List.mem_cons_of_mem _ h)
 | a :: xs,i + 1,v,y,h=>by
  rcases List.mem_cons.mp (show y ∈ a :: inc xs i v from h) with rfl | h
  ·exact .inl List.mem_cons_self
  ·rcases inc_mem h with h | ⟨x,hx,e⟩
   ·exact .inl (List.mem_cons_of_mem _ h)
   ·exact .inr ⟨x,hx,e⟩
def nz (xs : List Int) : List Int := xs.filter fun x=>decide (x ≠ 0)
theorem nz0 (xs : List Int) : nz (0 :: xs) = nz xs := rfl
theorem nzc {x : Int} (h : x ≠ 0) (xs : List Int) : nz (x :: xs) = x :: nz xs := by unfold nz; rw [List.filter_cons_of_pos (by simpa using h)]
theorem nz_self : ∀ xs : List Int,nz (zSub xs xs) = []
 | []=>rfl
 | x :: xs=>by
  show nz ((x - x) :: zSub xs xs) = []
  rw [Int.sub_self,nz0]; exact nz_self xs
theorem nz_inc : ∀ {xs : List Int} {i : Nat} {v : Int},i < xs.length -> v ≠ 0 -> nz (zSub (inc xs i v) xs) = [v]
 | [],_,_,h,_=>by cases h
 | x :: xs,0,v,_,hv=>by
  show nz ((x + v - x) :: zSub xs xs) = [v]
  rw [show x + v - x = v by omega,nzc hv,nz_self]
 | x :: xs,i + 1,v,h,hv=>by
  show nz ((x - x) :: zSub (inc xs i v) xs) = [v]
  rw [Int.sub_self,nz0]; exact nz_inc (by simpa using h) hv
theorem nz_none : ∀ {xs ys : List Int},xs.length = ys.length -> nz (zSub ys xs) = [] -> ys = xs
 | [],[],_,_=>rfl
 | x :: xs,y :: ys,hl,h=>by
  have h : nz ((y - x) :: zSub ys xs) = [] := h
  by_cases c : y - x = 0
  ·rw [c,nz0] at h
   rw [nz_none (by simpa using hl) h,show y = x by omega]
  ·rw [nzc c] at h; cases h
theorem nz_one : ∀ {xs ys : List Int} {v : Int},xs.length = ys.length -> nz (zSub ys xs) = [v] -> ∃ i,i < xs.length /\ ys = inc xs i v
 | [],[],_,_,h=>by cases h
 | x :: xs,y :: ys,v,hl,h=>by
  have h : nz ((y - x) :: zSub ys xs) = [v] := h
  have hl : xs.length = ys.length := by simpa using hl
  by_cases c : y - x = 0
  ·rw [c,nz0] at h
   obtain ⟨i,hi,e⟩ := nz_one hl h
   exact ⟨i + 1,by simpa using hi,by rw [e,show y = x by omega]; rfl⟩
  ·rw [nzc c] at h
   obtain ⟨h1,h2⟩ := List.cons.inj h
   exact ⟨0,by simp,by rw [nz_none hl h2]; show _ = (x + v) :: xs; rw [<- h1,show y = x + (y - x) by omega]; congr 1; omega⟩
theorem dif_inc : ∀ {xs ys ts us : List Int} {i : Nat} {v : Int},xs.length = ys.length -> zSub (zSub (inc xs i v) us) (zSub xs ts) = zSub (zSub (inc ys i v) us) (zSub ys ts)
 | [],[],_,_,_,_,_=>rfl
 | x :: xs,y :: ys,ts,us,0,v,h=>by
  have h : xs.length = ys.length := by simpa using h
  have ih : ∀ {ts us : List Int},zSub (zSub xs us) (zSub xs ts) = zSub (zSub ys us) (zSub ys ts) := fun {ts us}=>by
   have := dif_inc (ts := ts) (us := us) (i := 0) (v := 0) h
   rwa [inc_zero,inc_zero] at this
  cases ts with
  | nil=>cases us <;> rfl
  | cons t ts =>
   cases us with
   | nil=>rfl
   | cons u us =>
    show ((x + v - u) - (x - t)) :: zSub (zSub xs us) (zSub xs ts) = ((y + v - u) - (y - t)) :: zSub (zSub ys us) (zSub ys ts)
    rw [ih]; congr 1; omega
 | x :: xs,y :: ys,ts,us,i + 1,v,h=>by
  have h : xs.length = ys.length := by simpa using h
  cases ts with
  | nil=>cases us <;> rfl
  | cons t ts =>
   cases us with
   | nil=>rfl
   | cons u us =>
    show ((x - u) - (x - t)) :: zSub (zSub (inc xs i v) us) (zSub xs ts) = ((y - u) - (y - t)) :: zSub (zSub (inc ys i v) us) (zSub ys ts)
    rw [dif_inc h]; congr 1; omega
theorem dif_dec : ∀ {xs ys ts us : List Int} {i : Nat} {v : Int},xs.length = ys.length -> zSub (zSub xs ts) (zSub (inc xs i v) us) = zSub (zSub ys ts) (zSub (inc ys i v) us)
 | [],[],_,_,_,_,_=>rfl
 | x :: xs,y :: ys,ts,us,0,v,h=>by
  have h : xs.length = ys.length := by simpa using h
  have ih : ∀ {ts us : List Int},zSub (zSub xs us) (zSub xs ts) = zSub (zSub ys us) (zSub ys ts) := fun {ts us}=>by
   have := dif_inc (ts := ts) (us := us) (i := 0) (v := 0) h
   rwa [inc_zero,inc_zero] at this
  cases ts with
  | nil=>cases us <;> rfl
  | cons t ts =>
   cases us with
   | nil=>rfl
   | cons u us =>
    show ((x - t) - (x + v - u)) :: zSub (zSub xs ts) (zSub xs us) = ((y - t) - (y + v - u)) :: zSub (zSub ys ts) (zSub ys us)
    rw [ih]; congr 1; omega
 | x :: xs,y :: ys,ts,us,i + 1,v,h=>by
  have h : xs.length = ys.length := by simpa using h
  cases ts with
  | nil=>cases us <;> rfl
  | cons t ts =>
   cases us with
   | nil=>rfl
   | cons u us =>
    show ((x - t) - (x - u)) :: zSub (zSub xs ts) (zSub (inc xs i v) us) = ((y - t) - (y - u)) :: zSub (zSub ys ts) (zSub (inc ys i v) us)
    rw [dif_dec h]; congr 1; omega
theorem dif_add : ∀ {xs ys ts us : List Int},xs.length = ys.length -> zSub (zAdd xs ts) (zAdd xs us) = zSub (zAdd ys ts) (zAdd ys us)
 | [],[],_,_,_=>rfl
 | x :: xs,y :: ys,ts,us,h=>by
  have h : xs.length = ys.length := by simpa using h
  cases ts with
  | nil=>cases us <;> rfl
  | cons t ts =>
   cases us with
   | nil=>rfl
   | cons u us =>
    show ((x + t) - (x + u)) :: zSub (zAdd xs ts) (zAdd xs us) = ((y + t) - (y + u)) :: zSub (zAdd ys ts) (zAdd ys us)
    rw [dif_add h]; congr 1; omega
theorem same_inc : ∀ {xs ts : List Int} {i : Nat} {v : Int},ts.length = xs.length -> i < xs.length -> v ≠ 0 -> nz (zSub (zSub (inc xs i v) ts) (zSub xs ts)) = [v]
 | [],_,_,_,_,h,_=>by cases h
 | x :: xs,[],_,_,h,_,_=>by cases h
 | x :: xs,t :: ts,0,v,h,_,hv=>by
  show nz ((x + v - t - (x - t)) :: zSub (zSub xs ts) (zSub xs ts)) = _
  rw [show x + v - t - (x - t) = v by omega,nzc hv,nz_self]
 | x :: xs,t :: ts,i + 1,v,h,hi,hv=>by
  show nz ((x - t - (x - t)) :: zSub (zSub (inc xs i v) ts) (zSub xs ts)) = _
  rw [Int.sub_self,nz0]; exact same_inc (by simpa using h) (by simpa using hi) hv
theorem same_dec : ∀ {xs ts : List Int} {i : Nat},ts.length = xs.length -> i < xs.length -> nz (zSub (zSub xs ts) (zSub (inc xs i (-1)) ts)) = [1]
 | [],_,_,_,h=>by cases h
 | x :: xs,[],_,h,_=>by cases h
 | x :: xs,t :: ts,0,h,_=>by
  show nz ((x - t - (x + -1 - t)) :: zSub (zSub xs ts) (zSub xs ts)) = _
  rw [show x - t - (x + -1 - t) = 1 by omega,nzc (by decide),nz_self]
 | x :: xs,t :: ts,i + 1,h,hi=>by
  show nz ((x - t - (x - t)) :: zSub (zSub xs ts) (zSub (inc xs i (-1)) ts)) = _
  rw [Int.sub_self,nz0]; exact same_dec (by simpa using h) (by simpa using hi)
theorem add_inc : ∀ {xs ts : List Int} {i : Nat} {v : Int},ts.length = xs.length -> zAdd (inc xs i v) ts = inc (zAdd xs ts) i v
 | [],_,_,_,_=>rfl
 | x :: xs,[],_,_,h=>by cases h
 | x :: xs,t :: ts,0,v,h=>by show (x + v + t) :: zAdd xs ts = (x + t + v) :: zAdd xs ts; congr 1; omega
 | x :: xs,t :: ts,i + 1,v,h=>by show (x + t) :: zAdd (inc xs i v) ts = _; rw [add_inc (by simpa using h)]; rfl
theorem clip_cons (d x : Int) (xs : List Int) : clip d (x :: xs) = (if d < x then d else x) :: clip d xs := rfl
theorem clip_more : ∀ {xs : List Int} {i : Nat} {d x : Int},xs[i]? = some x -> d <= x -> clip d (inc xs i 1) = clip d xs
 | [],_,_,_,h,_=>by simp at h
 | a :: xs,0,d,x,h,hx=>by
  cases h
  show clip d ((a + 1) :: xs) = _
  rw [clip_cons,clip_cons]
  congr 1
  split <;> split <;> omega
 | a :: xs,i + 1,d,x,h,hx=>by
  show clip d (a :: inc xs i 1) = _
  rw [clip_cons,clip_cons,clip_more (by simpa using h) hx]
theorem clip_inc : ∀ {xs : List Int} {i : Nat} {d x : Int},xs[i]? = some x -> x < d -> clip d (inc xs i 1) = inc (clip d xs) i 1 /\ (clip d xs)[i]? = some x
 | [],_,_,_,h,_=>by simp at h
 | a :: xs,0,d,x,h,hx=>by
  cases h
  show clip d ((a + 1) :: xs) = _ /\ _
  rw [clip_cons,clip_cons,if_neg (by omega),if_neg (by omega)]
  exact ⟨rfl,rfl⟩
 | a :: xs,i + 1,d,x,h,hx=>by
  show clip d (a :: inc xs i 1) = _ /\ _
  rw [clip_cons,clip_cons]
  obtain ⟨h1,h2⟩ := clip_inc (d := d) (show xs[i]? = some x by simpa using h) hx
  rw [h1]
  exact ⟨rfl,by rw [List.getElem?_cons_succ]; exact h2⟩
theorem clip_less : ∀ {xs : List Int} {i : Nat} {d x : Int},xs[i]? = some x -> d < x -> clip d (inc xs i (-1)) = clip d xs
 | [],_,_,_,h,_=>by simp at h
 | a :: xs,0,d,x,h,hx=>by
  cases h
  show clip d ((a + -1) :: xs) = _
  rw [clip_cons,clip_cons]
  congr 1
  split <;> (try split) <;> omega
 | a :: xs,i + 1,d,x,h,hx=>by
  show clip d (a :: inc xs i (-1)) = _
  rw [clip_cons,clip_cons,clip_less (by simpa using h) hx]
theorem clip_dec : ∀ {xs : List Int} {i : Nat} {d x : Int},xs[i]? = some x -> x <= d -> clip d (inc xs i (-1)) = inc (clip d xs) i (-1) /\ (clip d xs)[i]? = some x
 | [],_,_,_,h,_=>by simp at h
 | a :: xs,0,d,x,h,hx=>by
  cases h
  show clip d ((a + -1) :: xs) = _ /\ _
  rw [clip_cons,clip_cons,if_neg (by omega),if_neg (by omega)]
  exact ⟨rfl,rfl⟩
 | a :: xs,i + 1,d,x,h,hx=>by
  show clip d (a :: inc xs i (-1)) = _ /\ _
  rw [clip_cons,clip_cons]
  obtain ⟨h1,h2⟩ := clip_dec (d := d) (show xs[i]? = some x by simpa using h) hx
  rw [h1]
  exact ⟨rfl,by rw [List.getElem?_cons_succ]; exact h2⟩
theorem clip_clip (d : Int) (xs : List Int) : clip d (clip d xs) = clip d xs := by
 unfold clip
 rw [List.map_map]
 refine List.map_congr_left fun x _=>?_
 show (if d < (if d < x then d else x) then d else (if d < x then d else x)) = _
 split <;> (try split) <;> omega
theorem clip_sum {d : Int} : ∀ (xs : List Int),(clip d xs).sum <= xs.sum
 | []=>Int.le_refl _
 | x :: xs=>by
  rw [clip_cons,List.sum_cons,List.sum_cons]
  have := clip_sum (d := d) xs
  split <;> omega
theorem absI_pos (g : Int) : 0 <= absI g := by unfold absI; split <;> omega
def dist1 (xs ys : List Int) : Int := ((zSub xs ys).map absI).sum
theorem dist1_cons (x y : Int) (xs ys : List Int) : dist1 (x :: xs) (y :: ys) = absI (x - y) + dist1 xs ys := rfl
theorem distB_eq (b c : Bk) : distB b c = dist1 b.1 c.1 + dist1 b.2 c.2 := by
 unfold distB dist1
 rw [List.map_append,List.sum_append]
theorem dist1_pos : ∀ (xs ys : List Int),0 <= dist1 xs ys
 | [],_=>Int.le_refl 0
 | _ :: _,[]=>Int.le_refl 0
 | x :: xs,y :: ys=>by rw [dist1_cons]; have := absI_pos (x - y); have := dist1_pos xs ys; omega
theorem dist1_tri : ∀ {xs ys zs : List Int},xs.length = ys.length -> ys.length = zs.length -> dist1 xs zs <= dist1 xs ys + dist1 ys zs
 | [],[],[],_,_=>by decide
 | x :: xs,y :: ys,z :: zs,h1,h2=>by
  rw [dist1_cons,dist1_cons,dist1_cons]
  have := dist1_tri (xs := xs) (ys := ys) (zs := zs) (by simpa using h1) (by simpa using h2)
  unfold absI
  split <;> split <;> split <;> omega
theorem dist1_nz : ∀ (xs ys : List Int),dist1 xs ys = ((nz (zSub xs ys)).map absI).sum
 | [],_=>rfl
 | _ :: _,[]=>rfl
 | x :: xs,y :: ys=>by
  rw [dist1_cons,dist1_nz xs ys]
  show _ = ((nz ((x - y) :: zSub xs ys)).map absI).sum
  by_cases c : x - y = 0
  ·rw [c,nz0]; show (0 : Int) + _ = _; omega
  ·rw [nzc c,List.map_cons,List.sum_cons]
theorem dist1_sym : ∀ (xs ys : List Int),dist1 xs ys = dist1 ys xs
 | [],[]=>rfl
 | [],_ :: _=>rfl
 | _ :: _,[]=>rfl
 | x :: xs,y :: ys=>by
  rw [dist1_cons,dist1_cons,dist1_sym xs ys]
  unfold absI
  split <;> split <;> omega
theorem dist1_zero : ∀ {xs ys : List Int},xs.length = ys.length -> dist1 xs ys = 0 -> xs = ys
 | [],[],_,_=>rfl
 | x :: xs,y :: ys,hl,h=>by
  rw [dist1_cons] at h
  have h1 := absI_pos (x - y)
  have h2 := dist1_pos xs ys
  rw [dist1_zero (xs := xs) (ys := ys) (by simpa using hl) (by omega)]
  have h3 : absI (x - y) = 0 := by omega
  unfold absI at h3
  rw [show x = y by split at h3 <;> omega]
theorem dist1_step : ∀ {xs ys : List Int},xs.length = ys.length -> (∀ x ∈ xs,0 <= x) -> (∀ y ∈ ys,0 <= y) -> dist1 xs ys ≠ 0 -> ∃ (i : Nat) (x v : Int),xs[i]? = some x /\ (v = 1 \/ v = -1 /\ 0 < x) /\ dist1 (inc xs i v) ys = dist1 xs ys - 1
 | [],[],_,_,_,h=>absurd rfl h
 | x :: xs,y :: ys,hl,hx,hy,h=>by
  have x0 := hx x List.mem_cons_self
  have y0 := hy y List.mem_cons_self
  by_cases c : x = y
  ·have h1 : absI (x - y) = 0 := by rw [c,Int.sub_self]; rfl
   rw [dist1_cons,h1,Int.zero_add] at h
   obtain ⟨i,z,v,h2,h3,h4⟩ := dist1_step (xs := xs) (ys := ys) (by simpa using hl) (fun a ha=>hx a (List.mem_cons_of_mem _ ha)) (fun a ha=>hy a (List.mem_cons_of_mem _ ha)) h
   refine ⟨i + 1,z,v,by simpa using h2,h3,?_⟩
   show dist1 (x :: inc xs i v) (y :: ys) = _
   rw [dist1_cons,dist1_cons,h4]; omega
  ·by_cases c2 : x < y
   ·refine ⟨0,x,1,rfl,.inl rfl,?_⟩
    show dist1 ((x + 1) :: xs) (y :: ys) = _
    rw [dist1_cons,dist1_cons]
    unfold absI
    split <;> split <;> omega
   ·refine ⟨0,x,-1,rfl,.inr ⟨rfl,by omega⟩,?_⟩
    show dist1 ((x + -1) :: xs) (y :: ys) = _
    rw [dist1_cons,dist1_cons]
    unfold absI
    split <;> split <;> omega
end K65
namespace K65
open PySem PySem.Spec PyProof.Rows L2 DL SrtK
variable [TabL]
abbrev Tk := Bool × Str
def tokens (t : TB) : List Tk := t.waits.map (fun s=>(false,s)) ++ t.frees.map fun s=>(true,s)
def tkD (k : Tk) : D := .tup [.str (if k.1 then "free" else "waits"),.str k.2]
def upB (t : TB) (b : Bk) (k : Tk) : Bk := if k.1 then (b.1,inc b.2 (t.frees.idxOf k.2) (-1)) else (inc b.1 (t.waits.idxOf k.2) 1,b.2)
def hiB (t : TB) (b : Bk) (k : Tk) : Option Bk := if k.1 = true /\ b.2.getD (t.frees.idxOf k.2) 0 <= 0 then none else some (upB t b k)
def difB (l h : Bk) : List Int := nz (zSub h.1 l.1) ++ nz (zSub l.2 h.2)
def nearB (l h : Bk) : Bool := decide (difB l h = [] \/ difB l h = [1])
def unitsB (b : Bk) : Int := b.1.sum + b.2.sum
theorem idx_at : ∀ {xs : List Str} {i : Nat} {s : Str},xs.Nodup -> xs[i]? = some s -> xs.idxOf s = i
 | [],_,_,_,h=>by simp at h
 | x :: xs,0,s,_,h=>by cases h; exact List.idxOf_cons_self
 | x :: xs,i + 1,s,hn,h=>by
  rw [List.getElem?_cons_succ] at h
  have hm := List.mem_of_getElem? h
  have hne : x ≠ s := fun e=>(List.nodup_cons.mp hn).1 (e ▸ hm)
  rw [List.idxOf_cons,show (x == s) = false from beq_false_of_ne hne,idx_at (List.nodup_cons.mp hn).2 h]; rfl
theorem mem_tok {t : TB} {k : Tk} (h : k ∈ tokens t) : (k.1 = false /\ ∃ i : Nat,t.waits[i]? = some k.2) \/ (k.1 = true /\ ∃ i : Nat,t.frees[i]? = some k.2) := by
 rcases List.mem_append.mp h with h | h
 ·obtain ⟨s,hs,rfl⟩ := List.mem_map.mp h
  exact .inl ⟨rfl,List.mem_iff_getElem?.mp hs⟩
 ·obtain ⟨s,hs,rfl⟩ := List.mem_map.mp h
  exact .inr ⟨rfl,List.mem_iff_getElem?.mp hs⟩
theorem tok_w {t : TB} {s : Str} {i : Nat} (h : t.waits[i]? = some s) : ((false,s) : Tk) ∈ tokens t := List.mem_append_left _ (List.mem_map.mpr ⟨s,List.mem_of_getElem? h,rfl⟩)
theorem tok_f {t : TB} {s : Str} {i : Nat} (h : t.frees[i]? = some s) : ((true,s) : Tk) ∈ tokens t := List.mem_append_right _ (List.mem_map.mpr ⟨s,List.mem_of_getElem? h,rfl⟩)
theorem lt_of_at {α : Type} {xs : List α} {i : Nat} {x : α} (h : xs[i]? = some x) : i < xs.length := (List.getElem?_eq_some_iff.mp h).1
theorem at_of_lt {α : Type} {xs : List α} {i : Nat} (h : i < xs.length) : ∃ x,xs[i]? = some x := ⟨_,List.getElem?_eq_getElem h⟩
theorem hi_w {t : TB} (o : t.Ok) {b : Bk} {s : Str} {i : Nat} (h : t.waits[i]? = some s) : hiB t b (false,s) = some (inc b.1 i 1,b.2) := by
 unfold hiB upB
 rw [if_neg (by rintro ⟨e,_⟩; cases e)]
 show some (if false = true then _ else (inc b.1 (t.waits.idxOf s) 1,b.2)) = _
 rw [if_neg (by decide),idx_at o.wn h]
theorem hi_f {t : TB} (o : t.Ok) {b : Bk} {s : Str} {i : Nat} {x : Int} (h : t.frees[i]? = some s) (hx : b.2[i]? = some x) : hiB t b (true,s) = if x <= 0 then none else some (b.1,inc b.2 i (-1)) := by
 unfold hiB upB
 show (if true = true /\ b.2.getD (t.frees.idxOf s) 0 <= 0 then none else some (if true = true then (b.1,inc b.2 (t.frees.idxOf s) (-1)) else _)) = _
 rw [idx_at o.fn h,List.getD_eq_getElem?_getD,hx,if_pos rfl]
 show (if true = true /\ x <= 0 then none else _) = _
 by_cases c : x <= 0
 ·rw [if_pos c,if_pos ⟨rfl,c⟩]
 ·rw [if_neg c,if_neg (fun z=>c z.2)]
theorem inc_pos {xs : List Int} {i : Nat} {v x : Int} (h : ∀ y ∈ xs,0 <= y) (hx : xs[i]? = some x) (hv : 0 <= x + v) : ∀ y ∈ inc xs i v,0 <= y := fun y hy=>by
 rcases inc_mem hy with hy | ⟨z,hz,rfl⟩
 ·exact h y hy
 ·rw [hx] at hz; cases hz; exact hv
theorem hi_cases {t : TB} (o : t.Ok) {b h : Bk} (hb : BkOk t b) {k : Tk} (hk : k ∈ tokens t) (e : hiB t b k = some h) : BkOk t h /\ ((∃ (i : Nat) (x : Int),k = (false,k.2) /\ t.waits[i]? = some k.2 /\ b.1[i]? = some x /\ h = (inc b.1 i 1,b.2)) \/ (∃ (i : Nat) (x : Int),k = (true,k.2) /\ t.frees[i]? = some k.2 /\ b.2[i]? = some x /\ 0 < x /\ h = (b.1,inc b.2 i (-1)))) := by
 obtain ⟨f,s⟩ := k
 rcases mem_tok hk with ⟨e1,i,hi⟩ | ⟨e1,i,hi⟩
 ·have e1 : f = false := e1
  subst e1
  rw [hi_w o hi] at e
  cases e
  obtain ⟨x,hx⟩ := at_of_lt (xs := b.1) (i := i) (by rw [hb.l1]; exact lt_of_at hi)
  have hx0 := hb.p1 x (List.mem_of_getElem? hx)
  exact ⟨⟨by rw [<- hb.l1]; exact inc_len _ _ _,hb.l2,inc_pos hb.p1 hx (by omega),hb.p2⟩,.inl ⟨i,x,rfl,hi,hx,rfl⟩⟩
 ·have e1 : f = true := e1
  subst e1
  obtain ⟨x,hx⟩ := at_of_lt (xs := b.2) (i := i) (by rw [hb.l2]; exact lt_of_at hi)
  rw [hi_f o hi hx] at e
  split at e
  ·cases e
  cases e
  exact ⟨⟨hb.l1,by rw [<- hb.l2]; exact inc_len _ _ _,hb.p1,inc_pos hb.p2 hx (by omega)⟩,.inr ⟨i,x,rfl,hi,hx,by omega,rfl⟩⟩
theorem nz_dec {xs : List Int} {i : Nat} (h : i < xs.length) : nz (zSub xs (inc xs i (-1))) = [1] := by
 have := nz_inc (xs := inc xs i (-1)) (i := i) (v := 1) (by rw [inc_len]; exact h) (by decide)
 rwa [inc_inc,show (-1 : Int) + 1 = 0 by decide,inc_zero] at this
theorem append_nil2 {xs ys : List Int} (h : xs ++ ys = []) : xs = [] /\ ys = [] := List.append_eq_nil_iff.mp h
theorem append_one {xs ys : List Int} {v : Int} (h : xs ++ ys = [v]) : xs = [v] /\ ys = [] \/ xs = [] /\ ys = [v] := by
 cases xs with
 | nil=>exact .inr ⟨rfl,h⟩
 | cons x xs =>
  obtain ⟨h1,h2⟩ := List.cons.inj h
  obtain ⟨h3,h4⟩ := append_nil2 h2
  exact .inl ⟨by rw [h1,h3],h4⟩
theorem near_law {t : TB} (o : t.Ok) {l h : Bk} (hl : BkOk t l) (hh : BkOk t h) : nearB l h = true ↔ (l = h \/ some h ∈ (tokens t).map (hiB t l)) := by
 have l1 : l.1.length = h.1.length := by rw [hl.l1,hh.l1]
 have l2 : l.2.length = h.2.length := by rw [hl.l2,hh.l2]
 unfold nearB
 rw [decide_eq_true_iff]
 constructor
 ·rintro (z | z)
  ·obtain ⟨h1,h2⟩ := append_nil2 z
   exact .inl (Prod.ext (nz_none l1 h1).symm (nz_none l2.symm h2))
  ·rcases append_one z with ⟨h1,h2⟩ | ⟨h1,h2⟩
   ·obtain ⟨i,hi,e⟩ := nz_one l1 h1
    have e2 := nz_none l2.symm h2
    obtain ⟨s,hs⟩ := at_of_lt (xs := t.waits) (i := i) (by rw [<- hl.l1]; exact hi)
    exact .inr (List.mem_map.mpr ⟨(false,s),tok_w hs,by rw [hi_w o hs,<- e,e2]⟩)
   ·obtain ⟨i,hi,e⟩ := nz_one l2.symm h2
    have e2 := nz_none l1 h1
    obtain ⟨s,hs⟩ := at_of_lt (xs := t.frees) (i := i) (by rw [<- hh.l2]; exact hi)
    obtain ⟨x,hx⟩ := at_of_lt hi
    have hx0 := hh.p2 x (List.mem_of_getElem? hx)
    have hx2 : l.2[i]? = some (x + 1) := by rw [e]; exact inc_at hx
    refine .inr (List.mem_map.mpr ⟨(true,s),tok_f hs,?_⟩)
    rw [hi_f o hs hx2,if_neg (by omega),e,inc_inc,show (1 : Int) + -1 = 0 by decide,inc_zero,<- e2]
 ·rintro (rfl | z)
  ·exact .inl (by unfold difB; rw [nz_self,nz_self]; rfl)
  ·obtain ⟨k,hk,e⟩ := List.mem_map.mp z
   obtain ⟨_,⟨i,x,_,h1,h2,rfl⟩ | ⟨i,x,_,h1,h2,h3,rfl⟩⟩ := hi_cases o hl hk e
   ·refine .inr ?_
    unfold difB
    rw [nz_inc (lt_of_at h2) (by decide),nz_self]; rfl
   ·refine .inr ?_
    unfold difB
    rw [nz_self,nz_dec (lt_of_at h2)]; rfl
def Parts (t : TB) (b : Bk) (k : Tk) (m : Str × Str) (rows : List RowT) : Prop := ∃ h x y,hiB t b k = some h /\ t.aft b m rows = some x /\ t.aft h m rows = some y /\ nearB x y = false
def zer (n : Nat) : List Int := List.replicate n 0
def CaseT (t : TB) (c : Bk) (k : Tk) (m : Str × Str) : Prop :=
 (m.1 = "place" /\ c.1 ∈ allC t.depth t.waits.length /\ c.2 = zer t.frees.length /\ k.1 = false /\ ∃ (i : Nat) (x : Int),t.waits[i]? = some k.2 /\ c.1[i]? = some x /\ x < (t.depth : Nat)) \/
 (m.1 ≠ "place" /\ c.2 ∈ allC t.depth t.frees.length /\ c.1 = zer t.waits.length /\ k.1 = true /\ ∃ (i : Nat) (x : Int),t.frees[i]? = some k.2 /\ c.2[i]? = some x /\ 0 < x)
theorem zer_len (n : Nat) : (zer n).length = n := List.length_replicate
theorem zer_sum : ∀ n : Nat,(zer n).sum = 0
 | 0=>rfl
 | n + 1=>by show (0 : Int) + (zer n).sum = 0; rw [zer_sum n]; rfl
theorem sum_pos : ∀ {xs : List Int},(∀ x ∈ xs,0 <= x) -> 0 <= xs.sum
 | [],_=>Int.le_refl 0
 | x :: xs,h=>by
  rw [List.sum_cons]
  have := h x List.mem_cons_self
  have := sum_pos (xs := xs) fun y hy=>h y (List.mem_cons_of_mem _ hy)
  omega
theorem aft_place {t : TB} {b : Bk} {m : Str × Str} {rows : List RowT} (hm : ¬ m.1 = ("person" : Str)) : t.aft b m rows = (rowAt rows (clip (t.depth : Nat) b.1)).map fun r=>(zSub b.1 r.1,zAdd b.2 r.2) := by unfold TB.aft; rw [if_neg hm]
theorem aft_person {t : TB} {b : Bk} {m : Str × Str} {rows : List RowT} (hm : m.1 = ("person" : Str)) : t.aft b m rows = (rowAt rows (clip (t.depth : Nat) b.2)).map fun r=>(zAdd b.1 r.2,zSub b.2 r.1) := by unfold TB.aft; rw [if_pos hm]
theorem near_of {x y : Bk} {a b : List Int} (h1 : nz (zSub y.1 x.1) = a) (h2 : nz (zSub x.2 y.2) = b) (h : a ++ b = [] \/ a ++ b = [1]) : nearB x y = true := by
 unfold nearB difB
 rw [h1,h2]
 exact decide_eq_true h
theorem near_eq {x y x' y' : Bk} (h1 : zSub y.1 x.1 = zSub y'.1 x'.1) (h2 : zSub x.2 y.2 = zSub x'.2 y'.2) : nearB x y = nearB x' y' := by
 unfold nearB difB
 rw [h1,h2]
theorem side_or {t : TB} (o : t.Ok) {m : Str × Str} {rows : List RowT} (hm : (m,rows) ∈ t.cs) : m.1 = "person" /\ m.1 ≠ "place" \/ m.1 = "place" /\ m.1 ≠ "person" := by
 have := of_decide_eq_true (o.side _ hm)
 rcases List.mem_cons.mp this with e | this
 ·exact .inl ⟨e,by rw [show m.1 = _ from e]; decide⟩
 ·have e : m.1 = "place" := List.mem_singleton.mp this
  exact .inr ⟨e,by rw [e]; decide⟩
theorem part_core {t : TB} (o : t.Ok) {b : Bk} (hb : BkOk t b) {k : Tk} (hk : k ∈ tokens t) {m : Str × Str} {rows : List RowT} (hm : (m,rows) ∈ t.cs) (hp : Parts t b k m rows) : ∃ c,CaseT t c k m /\ Parts t c k m rows /\ unitsB c <= unitsB b := by
 obtain ⟨h,x,y,e1,e2,e3,e4⟩ := hp
 have hd0 : (0 : Int) <= (t.depth : Nat) := Int.natCast_nonneg _
 have hr := o.rows _ hm
 have s1 := sum_pos hb.p1
 have s2 := sum_pos hb.p2
 obtain ⟨bh,hc⟩ := hi_cases o hb hk e1
 obtain ⟨f,s⟩ := k
 rcases side_or o hm with ⟨hs,hs'⟩ | ⟨hs,hs'⟩
 ·rw [aft_person hs] at e2 e3
  obtain ⟨r,hr1,rfl⟩ := Option.map_eq_some_iff.mp e2
  obtain ⟨r',hr2,rfl⟩ := Option.map_eq_some_iff.mp e3
  have ho : RowOk (clip (t.depth : Nat) b.2) (t.otherN m.1) r.1 r.2 := hr.ok _ (rowAt_mem hr1)
  have lo1 : r.1.length = b.2.length := by rw [ho.len,clip_len]
  have lo2 : r.2.length = b.1.length := by rw [ho.lenR,hb.l1]; unfold TB.otherN; rw [if_pos hs]
  rcases hc with ⟨i,v,ek,h1,h2,rfl⟩ | ⟨i,v,ek,h1,h2,h3,rfl⟩
  ·have hr2 : rowAt rows (clip (t.depth : Nat) b.2) = some r' := hr2
   rw [hr1] at hr2
   cases hr2
   have : nearB (zAdd b.1 r.2,zSub b.2 r.1) (zAdd (inc b.1 i 1) r.2,zSub b.2 r.1) = true := near_of (by
    show nz (zSub (zAdd (inc b.1 i 1) r.2) (zAdd b.1 r.2)) = [1]
    rw [add_inc lo2]
    exact nz_inc (by unfold zAdd; rw [List.length_zipWith]; have := lt_of_at h2; omega) (by decide)) (nz_self _) (.inr rfl)
   rw [show nearB (zAdd b.1 r.2,zSub b.2 r.1) (zAdd (inc b.1 i 1) r.2,zSub b.2 r.1) = false from e4] at this
   cases this
  ·by_cases c : (t.depth : Int) < v
   ·have hr2 : rowAt rows (clip (t.depth : Nat) (inc b.2 i (-1))) = some r' := hr2
    rw [clip_less h2 c,hr1] at hr2
    cases hr2
    have : nearB (zAdd b.1 r.2,zSub b.2 r.1) (zAdd b.1 r.2,zSub (inc b.2 i (-1)) r.1) = true := near_of (nz_self _) (same_dec lo1 (lt_of_at h2)) (.inr rfl)
    rw [show nearB (zAdd b.1 r.2,zSub b.2 r.1) (zAdd b.1 r.2,zSub (inc b.2 i (-1)) r.1) = false from e4] at this
    cases this
   ·obtain ⟨c1,c2⟩ := clip_dec h2 (by omega : v <= (t.depth : Nat))
    have gg : rowAt rows (clip (t.depth : Nat) (inc (clip (t.depth : Nat) b.2) i (-1))) = some r' := by rw [<- c1,clip_clip]; exact hr2
    have hs0 : f = true := congrArg Prod.fst ek
    subst hs0
    refine ⟨(zer t.waits.length,clip (t.depth : Nat) b.2),.inr ⟨hs',allC_mem _ _ (by rw [clip_len,hb.l2]) (clip_ok hd0 hb.p2),rfl,rfl,i,v,h1,c2,h3⟩,⟨_,_,_,by rw [hi_f o h1 c2,if_neg (by omega)],by rw [aft_person hs]; show (rowAt rows (clip (t.depth : Nat) (clip (t.depth : Nat) b.2))).map _ = _; rw [clip_clip,hr1]; rfl,by
     rw [aft_person hs]
     show (rowAt rows (clip (t.depth : Nat) (inc (clip (t.depth : Nat) b.2) i (-1)))).map _ = _
     rw [gg]; rfl,?_⟩,?_⟩
    ·rw [<- e4]
     refine near_eq ?_ ?_
     ·show zSub (zAdd (zer t.waits.length) r'.2) (zAdd (zer t.waits.length) r.2) = zSub (zAdd b.1 r'.2) (zAdd b.1 r.2)
      exact dif_add (by rw [zer_len,hb.l1])
     ·show zSub (zSub (clip (t.depth : Nat) b.2) r.1) (zSub (inc (clip (t.depth : Nat) b.2) i (-1)) r'.1) = zSub (zSub b.2 r.1) (zSub (inc b.2 i (-1)) r'.1)
      exact dif_dec (clip_len _ _)
    ·show (zer t.waits.length).sum + (clip (t.depth : Nat) b.2).sum <= b.1.sum + b.2.sum
     have := clip_sum (d := (t.depth : Nat)) b.2
     rw [zer_sum]; omega
 ·rw [aft_place hs'] at e2 e3
  obtain ⟨r,hr1,rfl⟩ := Option.map_eq_some_iff.mp e2
  obtain ⟨r',hr2,rfl⟩ := Option.map_eq_some_iff.mp e3
  have ho : RowOk (clip (t.depth : Nat) b.1) (t.otherN m.1) r.1 r.2 := hr.ok _ (rowAt_mem hr1)
  have lo1 : r.1.length = b.1.length := by rw [ho.len,clip_len]
  have lo2 : r.2.length = b.2.length := by rw [ho.lenR,hb.l2]; unfold TB.otherN; rw [if_neg hs']
  rcases hc with ⟨i,v,ek,h1,h2,rfl⟩ | ⟨i,v,ek,h1,h2,h3,rfl⟩
  ·by_cases c : (t.depth : Int) <= v
   ·have hr2 : rowAt rows (clip (t.depth : Nat) (inc b.1 i 1)) = some r' := hr2
    rw [clip_more h2 c,hr1] at hr2
    cases hr2
    have : nearB (zSub b.1 r.1,zAdd b.2 r.2) (zSub (inc b.1 i 1) r.1,zAdd b.2 r.2) = true := near_of (same_inc lo1 (lt_of_at h2) (by decide)) (nz_self _) (.inr rfl)
    rw [show nearB (zSub b.1 r.1,zAdd b.2 r.2) (zSub (inc b.1 i 1) r.1,zAdd b.2 r.2) = false from e4] at this
    cases this
   ·obtain ⟨c1,c2⟩ := clip_inc h2 (by omega : v < (t.depth : Nat))
    have gg : rowAt rows (clip (t.depth : Nat) (inc (clip (t.depth : Nat) b.1) i 1)) = some r' := by rw [<- c1,clip_clip]; exact hr2
    have hs0 : f = false := congrArg Prod.fst ek
    subst hs0
    refine ⟨(clip (t.depth : Nat) b.1,zer t.frees.length),.inl ⟨hs,allC_mem _ _ (by rw [clip_len,hb.l1]) (clip_ok hd0 hb.p1),rfl,rfl,i,v,h1,c2,by omega⟩,⟨_,_,_,hi_w o h1,by rw [aft_place hs']; show (rowAt rows (clip (t.depth : Nat) (clip (t.depth : Nat) b.1))).map _ = _; rw [clip_clip,hr1]; rfl,by
     rw [aft_place hs']
     show (rowAt rows (clip (t.depth : Nat) (inc (clip (t.depth : Nat) b.1) i 1))).map _ = _
     rw [gg]; rfl,?_⟩,?_⟩
    ·rw [<- e4]
     refine near_eq ?_ ?_
     ·show zSub (zSub (inc (clip (t.depth : Nat) b.1) i 1) r'.1) (zSub (clip (t.depth : Nat) b.1) r.1) = zSub (zSub (inc b.1 i 1) r'.1) (zSub b.1 r.1)
      exact dif_inc (clip_len _ _)
     ·show zSub (zAdd (zer t.frees.length) r.2) (zAdd (zer t.frees.length) r'.2) = zSub (zAdd b.2 r.2) (zAdd b.2 r'.2)
      exact dif_add (by rw [zer_len,hb.l2])
    ·show (clip (t.depth : Nat) b.1).sum + (zer t.frees.length).sum <= b.1.sum + b.2.sum
     have := clip_sum (d := (t.depth : Nat)) b.1
     rw [zer_sum]; omega
  ·have hr2 : rowAt rows (clip (t.depth : Nat) b.1) = some r' := hr2
   rw [hr1] at hr2
   cases hr2
   have : nearB (zSub b.1 r.1,zAdd b.2 r.2) (zSub b.1 r.1,zAdd (inc b.2 i (-1)) r.2) = true := near_of (nz_self _) (by
    show nz (zSub (zAdd b.2 r.2) (zAdd (inc b.2 i (-1)) r.2)) = [1]
    rw [add_inc lo2]
    exact nz_dec (by unfold zAdd; rw [List.length_zipWith]; have := lt_of_at h2; omega)) (.inr rfl)
   rw [show nearB (zSub b.1 r.1,zAdd b.2 r.2) (zSub b.1 r.1,zAdd (inc b.2 i (-1)) r.2) = false from e4] at this
   cases this
theorem near_dist {x y : Bk} (h : nearB x y = true) : distB x y <= 1 := by
 rw [distB_eq,dist1_sym x.1 y.1,dist1_nz,dist1_nz,<- List.sum_append,<- List.map_append]
 rcases of_decide_eq_true h with e | e
 ·show (List.map absI (difB x y)).sum <= 1
  rw [e]; decide
 ·show (List.map absI (difB x y)).sum <= 1
  rw [e]; decide
theorem distB_sym (x y : Bk) : distB x y = distB y x := by rw [distB_eq,distB_eq,dist1_sym x.1,dist1_sym x.2]
theorem distB_tri {t : TB} {x y z : Bk} (hx : BkOk t x) (hy : BkOk t y) (hz : BkOk t z) : distB x z <= distB x y + distB y z := by
 rw [distB_eq,distB_eq,distB_eq]
 have := dist1_tri (xs := x.1) (ys := y.1) (zs := z.1) (by rw [hx.l1,hy.l1]) (by rw [hy.l1,hz.l1])
 have := dist1_tri (xs := x.2) (ys := y.2) (zs := z.2) (by rw [hx.l2,hy.l2]) (by rw [hy.l2,hz.l2])
 omega
theorem distB_pos (x y : Bk) : 0 <= distB x y := by
 rw [distB_eq]
 have := dist1_pos x.1 y.1
 have := dist1_pos x.2 y.2
 omega
theorem step_ex {t : TB} (o : t.Ok) {b c : Bk} (hb : BkOk t b) (hc : BkOk t c) (h : distB b c ≠ 0) : ∃ b1,BkOk t b1 /\ distB b1 c = distB b c - 1 /\ ∃ k ∈ tokens t,hiB t b k = some b1 \/ hiB t b1 k = some b := by
 rw [distB_eq] at h
 by_cases h1 : dist1 b.1 c.1 = 0
 ·have h2 : dist1 b.2 c.2 ≠ 0 := by omega
  obtain ⟨i,x,v,hx,hv,e⟩ := dist1_step (by rw [hb.l2,hc.l2]) hb.p2 hc.p2 h2
  have x0 := hb.p2 x (List.mem_of_getElem? hx)
  obtain ⟨s,hs⟩ := at_of_lt (xs := t.frees) (i := i) (by rw [<- hb.l2]; exact lt_of_at hx)
  have hb1 : BkOk t (b.1,inc b.2 i v) := ⟨hb.l1,by rw [<- hb.l2]; exact inc_len _ _ _,hb.p1,inc_pos hb.p2 hx (by omega)⟩
  refine ⟨(b.1,inc b.2 i v),hb1,by rw [distB_eq,distB_eq]; show dist1 b.1 c.1 + dist1 (inc b.2 i v) c.2 = _; rw [e]; omega,(true,s),tok_f hs,?_⟩
  rcases hv with rfl | ⟨rfl,hp⟩
  ·refine .inr ?_
   rw [hi_f (b := (b.1,inc b.2 i 1)) o hs (inc_at hx),if_neg (by omega)]
   show some (b.1,inc (inc b.2 i 1) i (-1)) = _
   rw [inc_inc,show (1 : Int) + -1 = 0 by decide,inc_zero]
  ·refine .inl ?_
   rw [hi_f o hs hx,if_neg (by omega)]
 ·obtain ⟨i,x,v,hx,hv,e⟩ := dist1_step (by rw [hb.l1,hc.l1]) hb.p1 hc.p1 h1
  have x0 := hb.p1 x (List.mem_of_getElem? hx)
  obtain ⟨s,hs⟩ := at_of_lt (xs := t.waits) (i := i) (by rw [<- hb.l1]; exact lt_of_at hx)
  have hb1 : BkOk t (inc b.1 i v,b.2) := ⟨by rw [<- hb.l1]; exact inc_len _ _ _,hb.l2,inc_pos hb.p1 hx (by omega),hb.p2⟩
  refine ⟨(inc b.1 i v,b.2),hb1,by rw [distB_eq,distB_eq]; show dist1 (inc b.1 i v) c.1 + dist1 b.2 c.2 = _; rw [e]; omega,(false,s),tok_w hs,?_⟩
  rcases hv with rfl | ⟨rfl,hp⟩
  ·exact .inl (hi_w o hs)
  ·refine .inr ?_
   rw [hi_w o hs]
   show some (inc (inc b.1 i (-1)) i 1,b.2) = _
   rw [inc_inc,show (-1 : Int) + 1 = 0 by decide,inc_zero]
theorem never_far {t : TB} (o : t.Ok) {m : Str × Str} {rows : List RowT} (hm : (m,rows) ∈ t.cs) (hno : ∀ c k,k ∈ tokens t -> CaseT t c k m -> ¬ Parts t c k m rows) : ∀ (n : Nat) {b c b' c' : Bk},BkOk t b -> BkOk t c -> distB b c = (n : Int) -> t.aft b m rows = some b' -> t.aft c m rows = some c' -> distB b' c' <= (n : Int)
 | 0,b,c,b',c',hb,hc,h,e1,e2=>by
  rw [distB_eq] at h
  have := dist1_pos b.1 c.1
  have := dist1_pos b.2 c.2
  have h1 := dist1_zero (xs := b.1) (ys := c.1) (by rw [hb.l1,hc.l1]) (by omega)
  have h2 := dist1_zero (xs := b.2) (ys := c.2) (by rw [hb.l2,hc.l2]) (by omega)
  have : b = c := Prod.ext h1 h2
  subst this
  rw [e1] at e2
  cases e2
  rw [distB_eq,dist1_nz,dist1_nz,nz_self,nz_self]; decide
 | n + 1,b,c,b',c',hb,hc,h,e1,e2=>by
  obtain ⟨b1,hb1,hd,k,hk,hs⟩ := step_ex o hb hc (by omega)
  obtain ⟨b1',e3⟩ := aft_ex o hb1 hm
  have ih := never_far o hm hno n hb1 hc (by omega) e3 e2
  have one : distB b' b1' <= 1 := by
   have nn : ∀ {l h l' h' : Bk},BkOk t l -> hiB t l k = some h -> t.aft l m rows = some l' -> t.aft h m rows = some h' -> nearB l' h' = true := fun {l h l' h'} hl g1 g2 g3=>by
    cases z : nearB l' h' with
    | true=>rfl
    | false =>
     obtain ⟨cc,q1,q2,_⟩ := part_core o hl hk hm ⟨h,l',h',g1,g2,g3,z⟩
     exact absurd q2 (hno cc k hk q1)
   rcases hs with hs | hs
   ·exact near_dist (nn hb hs e1 e3)
   ·rw [distB_sym]
    exact near_dist (nn hb1 hs e3 e1)
  have := distB_tri (aft_ok o hb hm e1) (aft_ok o hb1 hm e3) (aft_ok o hc hm e2)
  omega
end K65
namespace K65
open PySem PySem.Spec PyProof.Rows L2 DL SrtK
variable [TabL]
theorem strsD_len (xs : List Str) : (strsD xs).length = xs.length := List.length_map ..
section
variable {P : Program} {w : World} {K : PySem.W.Frag} {mg : Str -> Option Value} {base : Heap}
def T__law_stream : List D -> (D -> Prop) -> Prop := fun ds Q=>∃ (ns : List Int) (j : Nat),ds = [.scr ns,.int (j : Nat)] /\ j <= 1000 /\ ∀ p : P3,Bud 1000000 p -> Q (stD p)
abbrev N__law_stream : List Str := ["_law_script", "_law_k", "_law_cell"]
theorem S__law_stream : FnScope N__law_stream ["_law_script", "_law_k"] (defScope s__law_stream) := ⟨rfl,rfl,rfl,by decide +kernel,rfl,by decide +kernel,by decide +kernel⟩
theorem ok__law_stream (T : TX P K mg) : FnB P w K mg base 1 "_law_stream" ["_law_script", "_law_k"] (spN K T__law_stream) := by
 obtain ⟨fd,F⟩ := T.F__law_stream
 refine fn_N (k := 0) F T.g__law_stream (fun _ _ _ _ _ _ us hl=>match us,hl with | [_,_],_=>rfl) S__law_stream (fun ds Qd h=>by first | (obtain ⟨rfl,_⟩ := h; rfl) | (obtain ⟨_,rfl,_⟩ := h; rfl) | (obtain ⟨_,_,rfl,_⟩ := h; rfl) | (obtain ⟨_,_,_,rfl,_⟩ := h; rfl) | (obtain ⟨_,_,_,_,rfl,_⟩ := h; rfl) | (obtain ⟨_,_,_,_,_,rfl,_⟩ := h; rfl) | (obtain ⟨_,_,_,_,_,_,rfl,_⟩ := h; rfl) | (obtain ⟨_,_,_,_,_,_,_,rfl,_⟩ := h; rfl) | (obtain ⟨_,_,_,_,_,_,_,_,rfl,_⟩ := h; rfl) | (obtain ⟨_,_,_,_,_,_,_,_,_,rfl,_⟩ := h; rfl) | (obtain ⟨_,_,_,_,_,_,_,_,_,_,rfl,_⟩ := h; rfl) | (obtain ⟨_,_,_,_,_,_,_,_,_,_,_,rfl,_⟩ := h; rfl)) fun cdv A outer s H E hr=>⟨_,(pss_cons (ps_set (i := 2) S__law_stream.nd rfl (by first | exact .inl rfl | exact .inr rfl) (pe_ifExp (pt_cmpR op_lt (pv 1) (pe_callB (klen (K := K) rfl) (by rfl) T.n_len (by decide +kernel) (pa_cons (pv 0) pa_nil)) (nomark _)) (pe_callB call_abs (by rfl) T.n_abs (by decide +kernel) (pa_cons (pe_ix (kix (K := K) rfl) (pv 0) (pv 1) (fun _ _=>rfl)) pa_nil)) pe_int))
   (pss_one (ps_ret (pe_lst (pa_cons (pe_ifExp (pt_cmpR op_ge (pv 2) (pe_op op_pow pe_int pe_int) (nomark _)) (pv 2) pe_int) (pa_cons (pe_op op_add (pe_op op_mod (pe_callTy call_int1 (by rfl) T.n_int (by decide +kernel) (pa_cons (pv 2) pa_nil)) pe_int) (pe_op op_mul pe_int (pv 1))) (pa_cons pe_int pa_nil))))))),fun ds Qd h=>?_⟩
 obtain ⟨ns,j,rfl,hj,q⟩ := h
 refine ws_seq<|ws_asg<|ew_weak (Q₁ := fun d ρ1=>∃ c : Int,d = .int c /\ 0 <= c /\ ρ1 = envP N__law_stream [D.scr ns,.int (j : Nat)]) ?_ ?_
 ·refine ew_if<|et_test<|ew_op<|ew_var rfl<|ew_cb<|ea_cons<|ew_var rfl<|ea_nil<|opa_len_scr<|op2_cmp ⟨_,rfl,ite_b (fun h1=>?_) (fun h1=>?_)⟩
  ·have hlt : j < ns.length := by have := of_decide_eq_true h1; omega
   refine ew_cb<|ea_cons<|ew_op<|ew_var rfl<|ew_var rfl<|op2_ix_scr (List.getElem?_eq_getElem hlt)<|ea_nil<|opa_abs ⟨_,rfl,?_,rfl⟩
   split <;> omega
  ·exact ew_int ⟨_,rfl,Int.le_refl _,rfl⟩
 rintro d ρ1 ⟨c,rfl,hc,rfl⟩
 refine gw_name<|ws_retNew<|en_lst<|ea_cons<|ew_weak (Q₁ := fun d ρ1=>∃ x : Int,d = .int x /\ ρ1 = (envP N__law_stream [D.scr ns,.int (j : Nat)]).set 2 (.sh (.int c))) ?_ ?_
 ·exact ew_if<|et_test<|ew_op<|ew_var rfl<|ew_op<|ew_int<|ew_int<|op2_intC ⟨by decide,by decide,by decide⟩<|op2_cmp ⟨_,rfl,ite_b (fun _=>ew_var rfl ⟨_,rfl,rfl⟩) (fun _=>ew_int ⟨_,rfl,rfl⟩)⟩
 rintro d ρ1 ⟨x,rfl,rfl⟩
 refine ea_cons<|ew_op<|ew_op<|ew_cb<|ea_cons<|ew_var rfl<|ea_nil<|opa_int<|ew_int<|op2_intC (by show (0 : Int) < 2147483647; decide)<|ew_op<|ew_int<|ew_var rfl<|op2_intC (.inl ⟨by decide,by decide⟩)<|op2_int<|ea_cons<|ew_int<|ea_nil ⟨by show 3 <= 100000; decide,q (_,_,0) ⟨?_,?_,Int.le_refl _,by show (0 : Int) + ((1000000 : Nat) : Int) <= 1099511627776; decide⟩⟩
 ·show 0 <= c % 2147483647 + 31 * (j : Int)
  have := Int.emod_nonneg c (show (2147483647 : Int) ≠ 0 by decide)
  omega
 ·show c % 2147483647 + 31 * (j : Int) <= 1099511627776
  have := Int.emod_lt_of_pos c (show (0 : Int) < 2147483647 by decide)
  omega
def T__law_draw : TVp := fun ds Q=>∃ m : Int,ds = [.int m] /\ 0 < m /\ m < 1000000 /\ ∀ r : Int,0 <= r -> r < m -> Q (.int r)
abbrev N__law_draw : List Str := ["_law_stream_here", "_law_many", "_law_digit", "_law_spread"]
theorem S__law_draw : FnScope N__law_draw ["_law_stream_here", "_law_many"] (defScope s__law_draw) := ⟨rfl,rfl,rfl,by decide +kernel,rfl,by decide +kernel,by decide +kernel⟩
theorem ok__law_draw (T : TX P K mg) : FnX P w K mg base 1 "_law_draw" ["_law_stream_here", "_law_many"] (spU K (TV 1 T__law_draw)) := by
 obtain ⟨fd,F⟩ := T.F__law_draw
 refine fn_VX (k := 0) F T.g__law_draw (fun _ _ _ _ _ _ us hl=>match us,hl with | [_,_],_=>rfl) S__law_draw (fun ds Qd h=>by first | (obtain ⟨rfl,_⟩ := h; rfl) | (obtain ⟨_,rfl,_⟩ := h; rfl) | (obtain ⟨_,_,rfl,_⟩ := h; rfl) | (obtain ⟨_,_,_,rfl,_⟩ := h; rfl) | (obtain ⟨_,_,_,_,rfl,_⟩ := h; rfl) | (obtain ⟨_,_,_,_,_,rfl,_⟩ := h; rfl) | (obtain ⟨_,_,_,_,_,_,rfl,_⟩ := h; rfl) | (obtain ⟨_,_,_,_,_,_,_,rfl,_⟩ := h; rfl) | (obtain ⟨_,_,_,_,_,_,_,_,rfl,_⟩ := h; rfl) | (obtain ⟨_,_,_,_,_,_,_,_,_,rfl,_⟩ := h; rfl) | (obtain ⟨_,_,_,_,_,_,_,_,_,_,rfl,_⟩ := h; rfl) | (obtain ⟨_,_,_,_,_,_,_,_,_,_,_,rfl,_⟩ := h; rfl)) fun cdv A outer s H W hcd hr tk po=>⟨_,(pss_cons (ps_if (pt_cmpR op_gt (pe_ix (kix (K := K) rfl) (pv 0) pe_int (fun _ _=>rfl)) pe_int (nomark _)) (pss_cons (ps_set (i := 2) S__law_draw.nd rfl (by first | exact .inl rfl | exact .inr rfl) (pe_op op_mod (pe_callTy call_int1 (by rfl) T.n_int (by decide +kernel) (pa_cons (pe_ix (kix (K := K) rfl) (pv 0) pe_int (fun _ _=>rfl)) pa_nil)) (pv 1)))
   (pss_cons (ps_asg (pe_op op_fdiv (pe_ix (kix (K := K) rfl) (pv 0) pe_int (fun _ _=>rfl)) (pv 1)) (pg_sub (pv 0) pe_int set_list))
   (pss_one (ps_ret (pv 2))))) pss_nil)
   (pss_cons (ps_asg (pe_op op_add (pe_ix (kix (K := K) rfl) (pv 0) pe_int (fun _ _=>rfl)) pe_int) (pg_sub (pv 0) pe_int set_list))
   (pss_cons (ps_set (i := 3) S__law_draw.nd rfl (by first | exact .inl rfl | exact .inr rfl) (pe_op op_mod (pe_op op_pow (pe_callTy call_int1 (by rfl) T.n_int (by decide +kernel) (pa_cons (pe_op op_add (pe_op op_add (pe_ix (kix (K := K) rfl) (pv 0) pe_int (fun _ _=>rfl)) (pe_op op_mul pe_int (pe_ix (kix (K := K) rfl) (pv 0) pe_int (fun _ _=>rfl)))) pe_int) pa_nil)) pe_int) pe_int))
   (pss_one (ps_ret (pe_op op_mod (pe_op op_fdiv (pe_op op_mod (pe_callTy call_int1 (by rfl) T.n_int (by decide +kernel) (pa_cons (pe_op op_mul (pe_op op_add (pv 3) (pe_ix (kix (K := K) rfl) (pv 0) pe_int (fun _ _=>rfl))) pe_int) pa_nil)) pe_int) pe_int) (pv 1))))))),fun a p n ds Qd hb h=>?_⟩
 obtain ⟨m,rfl,h0,h1,q⟩ := h
 obtain ⟨x,y,z⟩ := p
 obtain ⟨b1,b2,b3,b4⟩ := hb
 have b1 : 0 <= y := b1
 have b2 : y <= 1099511627776 := b2
 have b3 : 0 <= z := b3
 have b4 : z + ((n + 1 : Nat) : Int) <= 1099511627776 := b4
 refine ws_seq<|ws_if<|et_test<|ew_op<|ew_ixV (i := 0) rfl<|ew_int ⟨0,_,_,rfl,rfl,rfl,ew_int<|op2_cmp ⟨_,rfl,ite_b (fun _=>?_) (fun _=>ws_next ?_)⟩⟩
 ·refine ws_seq<|ws_asg<|ew_op<|ew_cb<|ea_cons<|ew_ixV (i := 0) rfl<|ew_int ⟨0,_,_,rfl,rfl,rfl,ea_nil<|opa_int<|ew_var rfl<|op2_intC h0<|gw_name ?_⟩
  refine ws_seq<|ws_lset (a := a) (j := 0)<|ew_op<|ew_ixV (i := 0) rfl<|ew_int ⟨0,_,_,rfl,rfl,rfl,ew_var rfl<|op2_intC ⟨h0,by omega⟩ ⟨_,rfl,by show 0 < 3; decide,?_⟩⟩
  exact ws_ret<|ew_var rfl ⟨⟨(x / m,y,z),rfl,b1,b2,b3,by show z + (n : Int) <= 1099511627776; omega⟩,q _ (Int.emod_nonneg _ (by omega)) (Int.emod_lt_of_pos _ h0)⟩
 ·refine ws_seq<|ws_lset (a := a) (j := 2)<|ew_op<|ew_ixV (i := 0) rfl<|ew_int ⟨2,_,_,rfl,rfl,rfl,ew_int<|op2_int ⟨_,rfl,by show 2 < 3; decide,?_⟩⟩
  have key : CPow (y + 7919 * (z + 1) + 104729) 5 := ⟨by decide,by decide,by
   have : (y + 7919 * (z + 1) + 104729).natAbs < 18446744073709551616 := by omega
   exact this⟩
  refine ws_seq<|ws_asg<|ew_op<|ew_op<|ew_cb<|ea_cons<|ew_op<|ew_op<|ew_ixV (i := 0) rfl<|ew_int ⟨1,_,_,rfl,rfl,rfl,ew_op<|ew_int<|ew_ixV (i := 0) rfl<|ew_int ⟨2,_,_,rfl,rfl,rfl,op2_intC (.inl ⟨by decide,by decide⟩)<|op2_int<|ew_int<|op2_int<|ea_nil<|opa_int<|ew_int<|op2_intC key<|ew_int<|op2_intC (by show (0 : Int) < 2147483647; decide)<|gw_name ?_⟩⟩
  refine ws_ret<|ew_op<|ew_op<|ew_op<|ew_cb<|ea_cons<|ew_op<|ew_op<|ew_var rfl<|ew_ixV (i := 0) rfl<|ew_int ⟨2,_,_,rfl,rfl,rfl,op2_int<|ew_int<|op2_intC (.inr ⟨by decide,by decide⟩)<|ea_nil<|opa_int<|ew_int<|op2_intC (by show (0 : Int) < 2147483629; decide)<|ew_int<|op2_intC ⟨by decide,by decide⟩<|ew_var rfl<|op2_intC h0 ⟨⟨(x,y,z + 1),rfl,b1,b2,by show 0 <= z + 1; omega,by show z + 1 + (n : Int) <= 1099511627776; omega⟩,q _ (Int.emod_nonneg _ (by omega)) (Int.emod_lt_of_pos _ h0)⟩⟩
def T_pick : TVp := fun ds Q=>∃ x xs,ds = [x] /\ x.seq = some xs /\ 0 < xs.length /\ xs.length <= 100000 /\ ∀ d ∈ xs,Q d
def T__law_pick : TUp := fun ags Q X=>TV 1 T_pick ags Q X \/ ∃ (ds : List D) (p : P3) (n : Nat),ags = [.ow (stD p),.ow (.lst ds)] /\ Bud (n + 1) p /\ 0 < ds.length /\ ds.length <= 100000 /\ ∀ d ∈ ds,∀ p',Bud n p' -> Q (.sh d) [.ow (stD p'),.ow (.lst ds)]
theorem pick_len {ags : List Ag} {Q : RV -> List Ag -> Prop} {X : Str -> Str -> D -> Prop} (h : T__law_pick ags Q X) : ags.length = 2 := by
 rcases h with h | ⟨ds,p,n,rfl,_⟩
 ·obtain ⟨p,n,ds,rfl,_,x,xs,rfl,_⟩ := h
  rfl
 ·rfl
abbrev N__law_pick : List Str := ["_law_stream_here", "_law_things"]
theorem S__law_pick : FnScope N__law_pick ["_law_stream_here", "_law_things"] (defScope s__law_pick) := ⟨rfl,rfl,rfl,by decide +kernel,rfl,by decide +kernel,by decide +kernel⟩
theorem ok__law_pick (T : TX P K mg) : FnX P w K mg base 2 "_law_pick" ["_law_stream_here", "_law_things"] (spU K T__law_pick) := by
 obtain ⟨fd,F⟩ := T.F__law_pick
 have G__law_draw := ok__law_draw (P := P) (w := w) (base := base) T
 refine fn_UX (k := 1) F T.g__law_pick (fun _ _ _ _ _ _ us hl=>match us,hl with | [_,_],_=>rfl) S__law_pick (fun ds Qd X h=>pick_len h) fun cdv A outer s H W hcd hr tk po=>⟨_,(pss_one (ps_ret (pe_ix (kix (K := K) rfl) (pv 1) (pe_callX G__law_draw tk (fun _ _ _ _ h=>h) (hr.mono (by first | decide | omega)) (pa_cons (pv 0) (pa_cons (pe_callB (klen (K := K) rfl) (by rfl) T.n_len (by decide +kernel) (pa_cons (pv 1) pa_nil)) pa_nil))) (fun _ _=>rfl)))),fun ags Qd X ha h=>?_⟩
 rcases h with h | ⟨ys,p,n,e,hb,h0,h1,q⟩
 ·obtain ⟨p,n,ds,e,hb,x,xs,rfl,hx,h0,h1,q⟩ := h
  obtain ⟨s1,s2,rfl,e1,e2⟩ := ags2 e
  obtain ⟨a,rfl⟩ := er_ow (ha s1 (by simp)) e1
  have := er_s (ha s2 (by simp)) e2
  subst this
  refine ws_ret<|ew_op<|ew_var rfl<|ew_callV n rfl<|ea_cons<|ew_cb<|ea_cons<|ew_var rfl<|ea_nil<|opa_len hx<|ea_nil ⟨p,rfl,hb,_,rfl,by omega,by omega,fun r hr0 hr1 p' hb'=>?_⟩
  have hlt : r.toNat < xs.length := by omega
  have e : r = ((r.toNat : Nat) : Int) := by omega
  rw [e]
  exact op2_ix hx (atI_nat (List.getElem?_eq_getElem hlt)) ⟨_,rfl,q _ (List.getElem_mem hlt) p' hb'⟩
 ·obtain ⟨s1,s2,rfl,e1,e2⟩ := ags2 e
  obtain ⟨a,rfl⟩ := er_ow (ha s1 (by simp)) e1
  obtain ⟨b,rfl⟩ := er_ow (ha s2 (by simp)) e2
  refine ws_ret<|ew_ixV (i := 1) rfl<|ew_callV n rfl<|ea_cons<|ew_lenV (i := 1) rfl<|ea_nil ⟨_,rfl,hb,_,rfl,by omega,by omega,fun r hr0 hr1 p' hb'=>?_⟩
  have hlt : r.toNat < ys.length := by omega
  have e : r = ((r.toNat : Nat) : Int) := by omega
  obtain ⟨y,hy⟩ : ∃ y,ys[r.toNat]? = some y := ⟨_,List.getElem?_eq_getElem hlt⟩
  refine ⟨r,ys,y,rfl,rfl,?_,_,rfl,_,rfl,q _ (List.mem_of_getElem? hy) p' hb'⟩
  rw [e]
  exact atI_nat hy
theorem ew_pick {ts : TA} {ρ : DL.Env} {W : XK} {i : Nat} {a : Addr} {p : P3} {Q : D -> DL.Env -> Prop} (n : Nat) (hi : ρ[i]? = some (.own a (stD p))) (h : EvA K ts ρ fun ds ρ1=>∃ p1,ρ1[i]? = some (.own a (stD p1)) /\ Bud (n + 1) p1 /\ T_pick ds fun d=>∀ p',Bud n p' -> Q d (ρ1.set i (.own a (stD p')))) : EvW K (tCall (spU K T__law_pick) [] W (tCons (tVar i) ts)) ρ Q := ew_callVU (fun _ _ _ z=>.inl z) n hi h
def T__law_mix : TVp := fun ds Q=>∃ xs : List Str,ds = [.lst (strsD xs)] /\ xs.length <= 3 /\ ∀ ys : List Str,ys.Perm xs -> Q (.lst (strsD ys))
theorem erase_perm {α : Type} {l : List α} {j : Nat} {x : α} (h : l[j]? = some x) : (x :: l.eraseIdx j).Perm l := by
 induction l generalizing j with
 | nil=>simp at h
 | cons y l ih =>
  cases j with
  | zero=>simp at h; subst h; exact List.Perm.refl _
  | succ j =>
   have h : l[j]? = some x := by simpa using h
   rw [List.eraseIdx_cons_succ]
   exact (List.Perm.swap y x _).trans ((ih h).cons y)
theorem erase_strs : ∀ (l : List Str) (j : Nat),(strsD l).eraseIdx j = strsD (l.eraseIdx j)
 | [],_=>rfl
 | x :: l,0=>rfl
 | x :: l,j + 1=>by
  show D.str x :: (strsD l).eraseIdx j = D.str x :: strsD (l.eraseIdx j)
  rw [erase_strs l j]
abbrev N__law_mix : List Str := ["_law_stream_here", "_law_things", "_law_left", "_law_k"]
theorem S__law_mix : FnScope N__law_mix ["_law_stream_here", "_law_things"] (defScope s__law_mix) := ⟨rfl,rfl,rfl,by decide +kernel,rfl,by decide +kernel,by decide +kernel⟩
theorem ok__law_mix (T : TX P K mg) : FnX P w K mg base 2 "_law_mix" ["_law_stream_here", "_law_things"] (spU K (TV 3 T__law_mix)) := by
 obtain ⟨fd,F⟩ := T.F__law_mix
 have G__law_draw := ok__law_draw (P := P) (w := w) (base := base) T
 refine fn_VX (k := 1) F T.g__law_mix (fun _ _ _ _ _ _ us hl=>match us,hl with | [_,_],_=>rfl) S__law_mix (fun ds Qd h=>by first | (obtain ⟨rfl,_⟩ := h; rfl) | (obtain ⟨_,rfl,_⟩ := h; rfl) | (obtain ⟨_,_,rfl,_⟩ := h; rfl) | (obtain ⟨_,_,_,rfl,_⟩ := h; rfl) | (obtain ⟨_,_,_,_,rfl,_⟩ := h; rfl) | (obtain ⟨_,_,_,_,_,rfl,_⟩ := h; rfl) | (obtain ⟨_,_,_,_,_,_,rfl,_⟩ := h; rfl) | (obtain ⟨_,_,_,_,_,_,_,rfl,_⟩ := h; rfl) | (obtain ⟨_,_,_,_,_,_,_,_,rfl,_⟩ := h; rfl) | (obtain ⟨_,_,_,_,_,_,_,_,_,rfl,_⟩ := h; rfl) | (obtain ⟨_,_,_,_,_,_,_,_,_,_,rfl,_⟩ := h; rfl) | (obtain ⟨_,_,_,_,_,_,_,_,_,_,_,rfl,_⟩ := h; rfl)) fun cdv A outer s H W hcd hr tk po=>⟨_,(pss_cons (ps_set (i := 2) S__law_mix.nd rfl (by first | exact .inl rfl | exact .inr rfl) (pe_callTy (klist (K := K) rfl) (by rfl) T.n_list (by decide +kernel) (pa_cons (pv 1) pa_nil)))
   (pss_one (ps_ret (pe_lc (own := [("_law_k",3)]) rfl S__law_mix.nd (pi_range1 (by rfl) T.n_range (pa_cons (pe_callB (klen (K := K) rfl) (by rfl) T.n_len (by decide +kernel) (pa_cons (pv 2) pa_nil)) pa_nil)) (blkOk_by (own := [("_law_k",3)]) (N := N__law_mix) (sc := defScope s__law_mix) (by decide +kernel)) (fun _ _ _ _ _=>(pg_name (i := 3) S__law_mix.nd rfl (by first | exact .inl rfl | exact .inr rfl))) (fun _ _ _ _ _=>pts_nil) (fun _ _ _ _ _=>(kbm (K := K) (id := "") rfl (pe_bm PySem.F.plainAttrs_list PySem.F.slot_list_pop PySem.F.type_list_pop mt_popAt (pv 2) (pa_cons (pe_callX G__law_draw takesN (E := E0) (fun _ _ _ _ h=>h) (hr.mono (by first | decide | omega)) (pa_cons (pv 0) (pa_cons (pe_callB (klen (K := K) rfl) (by rfl) T.n_len (by decide +kernel) (pa_cons (pv 2) pa_nil)) pa_nil))) pa_nil)))))))),fun a p n ds Qd hb h=>?_⟩
 obtain ⟨xs,rfl,hl,q⟩ := h
 refine ws_seq<|ws_asgN<|en_cb<|ea_cons<|ew_var rfl<|ea_nil<|opn_list rfl fun b=>?_
 refine ws_ret<|ew_new<|en_lcE<|ei_range1<|ea_cons<|ew_lenV (i := 2) rfl<|ea_nil ⟨_,rfl,by omega,by rw [strsD_len]; omega,by simp [strsD_len]; omega,fun i acc ρ=>∃ (p' : P3) (ys left : List Str),ρ = [.own a (stD p'),.sh (.lst (strsD xs)),.own b (.lst (strsD left)),.un] /\ acc = strsD ys /\ ys.length = i /\ (ys ++ left).Perm xs /\ Bud (n + (3 - i)) p',⟨p,[],xs,rfl,rfl,rfl,List.Perm.refl _,hb⟩,?_,?_⟩
 ·rintro i d acc ρ0 hd ⟨p',ys,left,e0,rfl,hi,hpm,hb'⟩
  have hlt := (List.getElem?_eq_some_iff.mp hd).1
  simp [strsD_len] at hlt
  have hll : left.length = xs.length - i := by
   have := hpm.length_eq
   rw [List.length_append] at this
   omega
  rw [e0]
  refine gv_name (by decide)<|et_yes<|iteT<|ew_popAt (i := 2) (a := b) rfl<|ew_callV (n + (3 - (i + 1))) rfl<|ea_cons<|ew_lenV (i := 2) rfl<|ea_nil ⟨p',rfl,hb'.less (by omega),_,rfl,?_,?_,fun r hr0 hr1 p2 hb2=>?_⟩
  ·rw [strsD_len]; omega
  ·rw [strsD_len]; omega
  ·rw [strsD_len] at hr1
   have hrl : r.toNat < left.length := by omega
   have hget := List.getElem?_eq_getElem hrl
   refine ⟨strsD left,r,.str left[r.toNat],rfl,rfl,hr0,by omega,by unfold strsD; rw [List.getElem?_map,hget]; rfl,?_⟩
   refine ⟨p2,ys ++ [left[r.toNat]],left.eraseIdx r.toNat,?_,?_,by rw [List.length_append,hi]; rfl,?_,hb2⟩
   ·show [Sl.own a (stD p2),.sh (.lst (strsD xs)),.own b (.lst ((strsD left).eraseIdx r.toNat)),.un] = _
    rw [erase_strs]
   ·unfold strsD; rw [List.map_append]; rfl
   ·rw [List.append_assoc]
    exact ((erase_perm hget).append_left ys).trans hpm
 ·rintro acc ρ0 ⟨p',ys,left,e0,rfl,hi,hpm,hb'⟩
  have hi : ys.length = xs.length := by simpa [strsD_len] using hi
  have hll : left = [] := by
   have := hpm.length_eq
   rw [List.length_append] at this
   exact List.length_eq_zero_iff.mp (by omega)
  subst hll
  rw [List.append_nil] at hpm
  rw [e0]
  exact ⟨⟨p',rfl,hb'.less (by omega)⟩,q ys hpm⟩
end
end K65
namespace K65
open PySem PySem.Spec PyProof.Rows L2 DL SrtK
variable [TabL]
def oneC (xs ns : List Str) : List Int := xs.map fun x=>((ns.count x : Nat) : Int)
def cntAt (mine : List Str) (cs : List Int) (x : Str) : Int := cs.getD (mine.idxOf x) 0
def thereOf (mine order : List Str) (cs : List Int) : List Str := order.filter fun x=>decide (cntAt mine cs x > 0)
def tkOf (mine order : List Str) (cs : List Int) : List Int := oneC mine ((thereOf mine order cs).take 1)
def rstOf (mine theirs order rests : List Str) (cs : List Int) : List Int := if (thereOf mine order cs).isEmpty then oneC theirs rests else oneC theirs []
def rowsL (mine theirs order rests : List Str) (dp : Nat) : List RowT := (allC dp mine.length).map fun cs=>(cs,tkOf mine order cs,rstOf mine theirs order rests cs)
theorem oneC_pos {xs ns : List Str} : ∀ a ∈ oneC xs ns,0 <= a := fun a ha=>by
 obtain ⟨x,_,rfl⟩ := List.mem_map.mp ha
 exact Int.natCast_nonneg _
theorem oneC_len (xs ns : List Str) : (oneC xs ns).length = xs.length := List.length_map ..
theorem rowsL_ok {mine theirs order rests : List Str} {dp : Nat} (hn : mine.Nodup) : RowsOk mine.length theirs.length dp (rowsL mine theirs order rests dp) := by
 refine ⟨by unfold rowsL; rw [List.map_map]; exact List.map_id' _,fun r hr=>?_⟩
 obtain ⟨cs,hcs,rfl⟩ := List.mem_map.mp hr
 obtain ⟨h1,h2⟩ := allC_row dp hcs
 have hrs : (rstOf mine theirs order rests cs).length = theirs.length /\ ∀ a ∈ rstOf mine theirs order rests cs,0 <= a := by
  unfold rstOf
  split
  ·exact ⟨oneC_len ..,oneC_pos⟩
  ·exact ⟨oneC_len ..,oneC_pos⟩
 refine ⟨by show (tkOf mine order cs).length = _; unfold tkOf; rw [oneC_len,h1],fun i a b ha hb=>?_,oneC_pos,hrs.1,hrs.2⟩
 have hb0 : 0 <= b := (h2 b (List.mem_of_getElem? hb)).1
 have ha : (tkOf mine order cs)[i]? = some a := ha
 unfold tkOf oneC at ha
 rw [List.getElem?_map] at ha
 obtain ⟨x,hx,rfl⟩ := Option.map_eq_some_iff.mp ha
 cases ht : thereOf mine order cs with
 | nil=>simpa using hb0
 | cons y ys =>
  rw [List.take_succ_cons,List.take_zero]
  by_cases e : y = x
  ·subst e
   have hm : y ∈ thereOf mine order cs := by rw [ht]; exact List.mem_cons_self
   unfold thereOf at hm
   have hc := of_decide_eq_true (List.mem_filter.mp hm).2
   unfold cntAt at hc
   obtain ⟨hlt,hx2⟩ := List.getElem?_eq_some_iff.mp hx
   have hi : mine.idxOf y = i := by
    rw [<- hx2]
    exact hn.idxOf_getElem i hlt
   rw [hi,List.getD_eq_getElem?_getD] at hc
   have hb : cs[i]? = some b := hb
   rw [hb] at hc
   have hc : b > 0 := hc
   simp
   omega
  ·have : [y].count x = 0 := by
    rw [List.count_eq_zero]
    exact fun z=>e (List.mem_singleton.mp z).symm
   rw [this]
   exact hb0
section
variable {P : Program} {w : World} {K : PySem.W.Frag} {mg : Str -> Option Value} {base : Heap}
def T__law_tuples : List D -> (D -> Prop) -> Prop := fun ds Q=>∃ depth many : Nat,ds = [.int (depth : Nat),.int (many : Nat)] /\ depth <= 3 /\ many <= 3 /\ Q (.lst ((allC depth many).map intsT))
abbrev N__law_tuples : List Str := ["_law_depth", "_law_many", "_law_rows", "_law_k", "_law_longer", "_law_row", "_law_number"]
theorem S__law_tuples : FnScope N__law_tuples ["_law_depth", "_law_many"] (defScope s__law_tuples) := ⟨rfl,rfl,rfl,by decide +kernel,rfl,by decide +kernel,by decide +kernel⟩
theorem ok__law_tuples (T : TX P K mg) : FnB P w K mg base 1 "_law_tuples" ["_law_depth", "_law_many"] (spP K T__law_tuples) := by
 obtain ⟨fd,F⟩ := T.F__law_tuples
 refine fn_P (k := 0) F T.g__law_tuples (fun _ _ _ _ _ _ us hl=>match us,hl with | [_,_],_=>rfl) S__law_tuples (fun ds Qd h=>by first | (obtain ⟨rfl,_⟩ := h; rfl) | (obtain ⟨_,rfl,_⟩ := h; rfl) | (obtain ⟨_,_,rfl,_⟩ := h; rfl) | (obtain ⟨_,_,_,rfl,_⟩ := h; rfl) | (obtain ⟨_,_,_,_,rfl,_⟩ := h; rfl) | (obtain ⟨_,_,_,_,_,rfl,_⟩ := h; rfl) | (obtain ⟨_,_,_,_,_,_,rfl,_⟩ := h; rfl) | (obtain ⟨_,_,_,_,_,_,_,rfl,_⟩ := h; rfl) | (obtain ⟨_,_,_,_,_,_,_,_,rfl,_⟩ := h; rfl) | (obtain ⟨_,_,_,_,_,_,_,_,_,rfl,_⟩ := h; rfl) | (obtain ⟨_,_,_,_,_,_,_,_,_,_,rfl,_⟩ := h; rfl) | (obtain ⟨_,_,_,_,_,_,_,_,_,_,_,rfl,_⟩ := h; rfl)) fun cdv A outer s H E hr=>⟨_,(pss_cons (ps_set (i := 2) S__law_tuples.nd rfl (by first | exact .inl rfl | exact .inr rfl) (pe_lst (pa_cons (pe_tup pa_nil) pa_nil)))
   (pss_cons (ps_for PassesOwn.never rfl (pi_range1 (by rfl) T.n_range (pa_cons (pv 1) pa_nil)) (pg_name (i := 3) S__law_tuples.nd rfl (by first | exact .inl rfl | exact .inr rfl))
   (pss_cons (ps_set (i := 4) S__law_tuples.nd rfl (by first | exact .inl rfl | exact .inr rfl) (pe_lst pa_nil))
   (pss_cons (ps_for PassesOwn.never rfl (kwU (K := K) rfl (pv 2)) (pg_name (i := 5) S__law_tuples.nd rfl (by first | exact .inl rfl | exact .inr rfl))
   (pss_one (ps_expr (kbm (K := K) (id := "") rfl (pe_bm PySem.F.plainAttrs_list PySem.F.slot_list_extend PySem.F.type_list_extend mt_extend (pv 4) (pa_cons (pe_lc (own := [("_law_number",6)]) rfl S__law_tuples.nd (pi_range1 (by rfl) T.n_range (pa_cons (pe_op op_add (pv 0) pe_int) pa_nil)) (blkOk_by (own := [("_law_number",6)]) (N := N__law_tuples) (sc := defScope s__law_tuples) (by decide +kernel)) (fun _ _ _ _ _=>(pg_name (i := 6) S__law_tuples.nd rfl (by first | exact .inl rfl | exact .inr rfl))) (fun _ _ _ _ _=>pts_nil) (fun _ _ _ _ _=>(pe_op (kcatA (K := K) rfl) (pv 5) (pe_tup (pa_cons (pv 6) pa_nil))))) pa_nil))))))
   (pss_one (ps_set (i := 2) S__law_tuples.nd rfl (by first | exact .inl rfl | exact .inr rfl) (pv 4))))))
   (pss_one (ps_ret (pv 2))))),fun ds Qd h=>?_⟩
 obtain ⟨most,many,rfl,h2,h1,q⟩ := h
 have hlen : ∀ i,i <= 3 -> (allC most i).length <= 64 := fun i hi=>by
  rw [allC_len]
  exact Nat.le_trans (Nat.pow_le_pow_right (by omega) hi) (Nat.pow_le_pow_left (by omega : most + 1 <= 4) 3)
 have hnl : (nums most).length = most + 1 := by unfold nums; rw [List.length_map,List.length_range]
 refine ws_seq<|ws_asg<|ew_new<|en_lst<|ea_cons<|ew_tup<|ea_nil ⟨by show 0 <= 100000; decide,ea_nil ⟨by show 1 <= 100000; decide,gw_name ?_⟩⟩
 refine ws_seq<|ws_for<|ei_range1<|ea_cons<|ew_var rfl<|ea_nil ⟨_,rfl,by omega,by omega,fun i ρ=>∃ s3 s4 s5 : Sl,ρ = [.sh (.int (most : Nat)),.sh (.int (many : Nat)),.sh (.lst ((allC most i).map intsT)),s3,s4,s5,.un],⟨_,_,_,rfl⟩,?_,?_⟩
 ·rintro i d ρ' hd ⟨s3,s4,s5,rfl⟩
  have hlt := (List.getElem?_eq_some_iff.mp hd).1
  rw [List.length_map,List.length_range,Int.toNat_natCast] at hlt
  have hl := hlen i (by omega)
  have hrow : ∀ row ∈ allC most i,row.length = i := fun row h=>(allC_row most h).1
  have hnext : allC most (i + 1) = (allC most i).flatMap fun row=>(nums most).map fun i=>row ++ [i] := rfl
  have hl2 := hlen (i + 1) (by omega)
  rw [hnext] at hl2
  generalize hA : allC most i = A at *
  refine gw_name<|ws_seq<|ws_asgN<|en_lst<|ea_nil ⟨by show 0 <= 100000; decide,fun p=>?_⟩
  refine ws_seq<|ws_for<|ei_seq (.lst (A.map intsT)) rfl<|ew_var rfl ⟨rfl,fun j ρ=>∃ s5 : Sl,ρ = [.sh (.int (most : Nat)),.sh (.int (many : Nat)),.sh (.lst (A.map intsT)),.sh d,.own p (.lst (((A.take j).flatMap fun row=>(nums most).map fun i=>row ++ [i]).map intsT)),s5,.un],⟨_,rfl⟩,?_,?_⟩
  ·rintro j e ρ' he ⟨s5,rfl⟩
   rw [List.getElem?_map] at he
   obtain ⟨row,hr,rfl⟩ := Option.map_eq_some_iff.mp he
   have hsub : (((A.take j).flatMap fun row=>(nums most).map fun i=>row ++ [i]).map intsT).length <= 64 := by
    rw [List.length_map]
    refine Nat.le_trans ?_ hl2
    have e : A.take j ++ A.drop j = A := List.take_append_drop j A
    have e2 : (A.flatMap fun row=>(nums most).map fun i=>row ++ [i]).length = ((A.take j).flatMap fun row=>(nums most).map fun i=>row ++ [i]).length + ((A.drop j).flatMap fun row=>(nums most).map fun i=>row ++ [i]).length := by
     rw [<- List.length_append,<- List.flatMap_append,e]
    omega
   refine gw_name<|ws_drop<|ew_extend (i := 4) (a := p) rfl<|ew_new<|en_lcG (fun m : Nat=>intsT (row ++ [(m : Int)]))<|ei_range1<|ea_cons<|ew_op<|ew_var rfl<|ew_int<|op2_int<|ea_nil ⟨_,rfl,by omega,by omega,rfl,?_,fun m y hy=>?_,?_⟩
   ·rw [List.length_map,List.length_range]; omega
   ·rw [List.getElem?_map] at hy
    obtain ⟨j',hj,rfl⟩ := Option.map_eq_some_iff.mp hy
    have hjl := (List.getElem?_eq_some_iff.mp hj).1
    rw [List.getElem?_range (by simpa using hjl)] at hj
    cases hj
    refine gv_name (by decide)<|ew_op<|ew_var rfl<|ew_tup<|ea_cons<|ew_var rfl<|ea_nil ⟨by show 1 <= 100000; decide,op2_catT ?_ ⟨rfl,?_⟩⟩
    ·have := hrow row (List.mem_of_getElem? hr)
     rw [List.length_map]
     show row.length + 1 <= 90000
     omega
    ·show D.tup (row.map D.int ++ [.int (0 + (m : Int))]) = D.tup ((row ++ [(m : Int)]).map D.int)
     rw [List.map_append,Int.zero_add]; rfl
   ·have e1 : ((List.range ((List.range ((most : Int) + 1).toNat).map fun (i : Nat)=>D.int (0 + (i : Int))).length).map fun m : Nat=>intsT (row ++ [(m : Int)])) = ((nums most).map fun i=>row ++ [i]).map intsT := by
     unfold nums
     rw [List.length_map,List.length_range,List.map_map,List.map_map,show ((most : Int) + 1).toNat = most + 1 by omega]; rfl
    rw [e1]
    refine ⟨_,_,rfl,rfl,?_,.sh (intsT row),?_⟩
    ·have e3 : ((((nums most).map fun i=>row ++ [i]).map intsT)).length = most + 1 := by rw [List.length_map,List.length_map,hnl]
     rw [e3]; omega
    ·show [_,_,_,_,Sl.own p (.lst (_ ++ _)),_,_] = _
     rw [take_snoc hr,List.flatMap_append,List.map_append]
     have e2 : (List.flatMap (fun row=>(nums most).map fun i=>row ++ [i]) [row]) = (nums most).map fun i=>row ++ [i] := by simp
     rw [e2]
  ·rintro ρ' ⟨s5,rfl⟩
   rw [List.length_map,List.take_length]
   exact ws_share (i := 4) rfl<|ws_asg<|ew_var rfl<|gw_name ⟨_,_,_,by rw [hnext]; rfl⟩
 ·rintro ρ' ⟨s3,s4,s5,rfl⟩
  rw [List.length_map,List.length_range,Int.toNat_natCast]
  exact ws_ret<|ew_var rfl q
def T__law_sides : List D -> (D -> Prop) -> Prop := fun ds Q=>∃ (a b c r e : D) (s : Str) (rest : List D),ds = [.tup [a,b,c,r],e] /\ e.seq = some (.str s :: rest) /\ Q (if s = "person" then .tup [b,a] else .tup [a,b])
abbrev N__law_sides : List Str := ["_law_table", "_law_comer", "_law_waits", "_law_frees", "_law_depth", "_law_rows"]
theorem S__law_sides : FnScope N__law_sides ["_law_table", "_law_comer"] (defScope s__law_sides) := ⟨rfl,rfl,rfl,by decide +kernel,rfl,by decide +kernel,by decide +kernel⟩
theorem ok__law_sides (T : TX P K mg) : FnB P w K mg base 1 "_law_sides" ["_law_table", "_law_comer"] (spP K T__law_sides) := by
 obtain ⟨fd,F⟩ := T.F__law_sides
 refine fn_P (k := 0) F T.g__law_sides (fun _ _ _ _ _ _ us hl=>match us,hl with | [_,_],_=>rfl) S__law_sides (fun ds Qd h=>by first | (obtain ⟨rfl,_⟩ := h; rfl) | (obtain ⟨_,rfl,_⟩ := h; rfl) | (obtain ⟨_,_,rfl,_⟩ := h; rfl) | (obtain ⟨_,_,_,rfl,_⟩ := h; rfl) | (obtain ⟨_,_,_,_,rfl,_⟩ := h; rfl) | (obtain ⟨_,_,_,_,_,rfl,_⟩ := h; rfl) | (obtain ⟨_,_,_,_,_,_,rfl,_⟩ := h; rfl) | (obtain ⟨_,_,_,_,_,_,_,rfl,_⟩ := h; rfl) | (obtain ⟨_,_,_,_,_,_,_,_,rfl,_⟩ := h; rfl) | (obtain ⟨_,_,_,_,_,_,_,_,_,rfl,_⟩ := h; rfl) | (obtain ⟨_,_,_,_,_,_,_,_,_,_,rfl,_⟩ := h; rfl) | (obtain ⟨_,_,_,_,_,_,_,_,_,_,_,rfl,_⟩ := h; rfl)) fun cdv A outer s H E hr=>⟨_,(pss_cons (ps_asg (pv 0) (kgt (K := K) (n := 4) rfl rfl (pgs_cons (pg_name (i := 2) S__law_sides.nd rfl (by first | exact .inl rfl | exact .inr rfl)) (pgs_cons (pg_name (i := 3) S__law_sides.nd rfl (by first | exact .inl rfl | exact .inr rfl)) (pgs_cons (pg_name (i := 4) S__law_sides.nd rfl (by first | exact .inl rfl | exact .inr rfl)) (pgs_cons (pg_name (i := 5) S__law_sides.nd rfl (by first | exact .inl rfl | exact .inr rfl)) pgs_nil))))))
   (pss_one (ps_ret (pe_ifExp (pt_cmpR op_eq (pe_ix (kix (K := K) rfl) (pv 1) pe_int (fun _ _=>rfl)) pe_str (nomark _)) (pe_tup (pa_cons (pv 3) (pa_cons (pv 2) pa_nil))) (pe_tup (pa_cons (pv 2) (pa_cons (pv 3) pa_nil))))))),fun ds Qd h=>?_⟩
 obtain ⟨a,b,c,r,e,s,rest,rfl,he,q⟩ := h
 refine ws_seq<|ws_asg<|ew_var rfl<|gw_tup rfl<|gws_cons<|gw_name<|gws_cons<|gw_name<|gws_cons<|gw_name<|gws_cons<|gw_name<|gws_nil ?_
 refine ws_ret<|ew_if<|et_test<|ew_op<|ew_op<|ew_var rfl<|ew_int<|op2_ix he (atI_nat (j := 0) rfl)<|ew_str<|op2_eq_str ⟨_,rfl,?_⟩
 by_cases z : s = ("person" : Str)
 ·rw [if_pos z] at q
  rw [decide_eq_true z]
  exact iteT<|ew_tup<|ea_cons<|ew_var rfl<|ea_cons<|ew_var rfl<|ea_nil ⟨by show 2 <= 100000; decide,q⟩
 ·rw [if_neg z] at q
  rw [decide_eq_false z]
  exact iteF<|ew_tup<|ea_cons<|ew_var rfl<|ea_cons<|ew_var rfl<|ea_nil ⟨by show 2 <= 100000; decide,q⟩
def T__law_one : List D -> (D -> Prop) -> Prop := fun ds Q=>∃ xs ns : List Str,ds = [.lst (strsD xs),.lst (strsD ns)] /\ xs.length <= 1000 /\ Q (intsT (oneC xs ns))
abbrev N__law_one : List Str := ["_law_sorts", "_law_names", "_law_name"]
theorem S__law_one : FnScope N__law_one ["_law_sorts", "_law_names"] (defScope s__law_one) := ⟨rfl,rfl,rfl,by decide +kernel,rfl,by decide +kernel,by decide +kernel⟩
theorem ok__law_one (T : TX P K mg) : FnB P w K mg base 1 "_law_one" ["_law_sorts", "_law_names"] (spP K T__law_one) := by
 obtain ⟨fd,F⟩ := T.F__law_one
 refine fn_P (k := 0) F T.g__law_one (fun _ _ _ _ _ _ us hl=>match us,hl with | [_,_],_=>rfl) S__law_one (fun ds Qd h=>by first | (obtain ⟨rfl,_⟩ := h; rfl) | (obtain ⟨_,rfl,_⟩ := h; rfl) | (obtain ⟨_,_,rfl,_⟩ := h; rfl) | (obtain ⟨_,_,_,rfl,_⟩ := h; rfl) | (obtain ⟨_,_,_,_,rfl,_⟩ := h; rfl) | (obtain ⟨_,_,_,_,_,rfl,_⟩ := h; rfl) | (obtain ⟨_,_,_,_,_,_,rfl,_⟩ := h; rfl) | (obtain ⟨_,_,_,_,_,_,_,rfl,_⟩ := h; rfl) | (obtain ⟨_,_,_,_,_,_,_,_,rfl,_⟩ := h; rfl) | (obtain ⟨_,_,_,_,_,_,_,_,_,rfl,_⟩ := h; rfl) | (obtain ⟨_,_,_,_,_,_,_,_,_,_,rfl,_⟩ := h; rfl) | (obtain ⟨_,_,_,_,_,_,_,_,_,_,_,rfl,_⟩ := h; rfl)) fun cdv A outer s H E hr=>⟨_,(pss_one (ps_ret (pe_callTy (ktuple (K := K) rfl) (by rfl) T.n_tuple (by decide +kernel) (pa_cons (pe_lc (own := [("_law_name",2)]) rfl S__law_one.nd (kwU (K := K) rfl (pv 0)) (blkOk_by (own := [("_law_name",2)]) (N := N__law_one) (sc := defScope s__law_one) (by decide +kernel)) (fun _ _ _ _ _=>(pg_name (i := 2) S__law_one.nd rfl (by first | exact .inl rfl | exact .inr rfl))) (fun _ _ _ _ _=>pts_nil) (fun _ _ _ _ _=>(kbm (K := K) (id := "") rfl (pe_bm PySem.F.plainAttrs_list PySem.F.slot_list_count PySem.F.type_list_count (LowX.mt_lcountS (K := K) rfl) (pv 1) (pa_cons (pv 2) pa_nil))))) pa_nil)))),fun ds Qd h=>?_⟩
 obtain ⟨xs,ns,rfl,hl,q⟩ := h
 refine ws_ret<|ew_cb<|ea_cons<|ew_new<|en_lcMt D.str xs (fun x=>.int ((ns.count x : Nat) : Int))<|ei_seq (.lst (strsD xs)) rfl<|ew_var rfl ⟨rfl,rfl,rfl,by omega,fun x hx=>gv_name (by decide)<|ew_count<|ew_var rfl ⟨ns,rfl,ew_var rfl ⟨x,rfl,rfl,rfl⟩⟩,ea_nil<|opa_tuple rfl ?_⟩
 have e : (xs.map fun x=>D.int ((ns.count x : Nat) : Int)) = (oneC xs ns).map D.int := by
  unfold oneC
  rw [List.map_map]; rfl
 rw [e]; exact q
def T__law_listed : List D -> (D -> Prop) -> Prop := fun ds Q=>∃ (a b : List Str) (dp : Nat) (r : D) (k : Str × Str) (order rests : List Str) (mine theirs : List Str),ds = [.tup [.lst (strsD a),.lst (strsD b),.int (dp : Nat),r],comerD k,.lst (strsD order),.lst (strsD rests)] ∧
 mine = (if k.1 = "person" then b else a) /\ theirs = (if k.1 = "person" then a else b) /\ mine.length <= 3 /\ theirs.length <= 3 /\ dp <= 3 /\ order.length <= 10 /\ (∀ x ∈ order,x ∈ mine /\ PyData.strOk x = true) /\ Q (rowsD (rowsL mine theirs order rests dp))
abbrev N__law_listed : List Str := ["_law_table", "_law_comer", "_law_order", "_law_rests", "_law_mine", "_law_theirs", "_law_found", "_law_counts", "_law_there", "_law_taken", "_law_name"]
theorem S__law_listed : FnScope N__law_listed ["_law_table", "_law_comer", "_law_order", "_law_rests"] (defScope s__law_listed) := ⟨rfl,rfl,rfl,by decide +kernel,rfl,by decide +kernel,by decide +kernel⟩
theorem ok__law_listed (T : TX P K mg) : FnB P w K mg base 2 "_law_listed" ["_law_table", "_law_comer", "_law_order", "_law_rests"] (spP K T__law_listed) := by
 obtain ⟨fd,F⟩ := T.F__law_listed
 have G__law_sides := ok__law_sides (P := P) (w := w) (base := base) T
 have G__law_tuples := ok__law_tuples (P := P) (w := w) (base := base) T
 have G__law_one := ok__law_one (P := P) (w := w) (base := base) T
 refine fn_P (k := 1) F T.g__law_listed (fun _ _ _ _ _ _ us hl=>match us,hl with | [_,_,_,_],_=>rfl) S__law_listed (fun ds Qd h=>by first | (obtain ⟨rfl,_⟩ := h; rfl) | (obtain ⟨_,rfl,_⟩ := h; rfl) | (obtain ⟨_,_,rfl,_⟩ := h; rfl) | (obtain ⟨_,_,_,rfl,_⟩ := h; rfl) | (obtain ⟨_,_,_,_,rfl,_⟩ := h; rfl) | (obtain ⟨_,_,_,_,_,rfl,_⟩ := h; rfl) | (obtain ⟨_,_,_,_,_,_,rfl,_⟩ := h; rfl) | (obtain ⟨_,_,_,_,_,_,_,rfl,_⟩ := h; rfl) | (obtain ⟨_,_,_,_,_,_,_,_,rfl,_⟩ := h; rfl) | (obtain ⟨_,_,_,_,_,_,_,_,_,rfl,_⟩ := h; rfl) | (obtain ⟨_,_,_,_,_,_,_,_,_,_,rfl,_⟩ := h; rfl) | (obtain ⟨_,_,_,_,_,_,_,_,_,_,_,rfl,_⟩ := h; rfl)) fun cdv A outer s H E hr=>⟨_,(pss_cons (ps_asg (pe_callF G__law_sides (hr.mono (by first | decide | omega)) (pa_cons (pv 0) (pa_cons (pv 1) pa_nil))) (kgt (K := K) (n := 2) rfl rfl (pgs_cons (pg_name (i := 4) S__law_listed.nd rfl (by first | exact .inl rfl | exact .inr rfl)) (pgs_cons (pg_name (i := 5) S__law_listed.nd rfl (by first | exact .inl rfl | exact .inr rfl)) pgs_nil))))
   (pss_cons (ps_set (i := 6) S__law_listed.nd rfl (by first | exact .inl rfl | exact .inr rfl) pe_dnewT)
   (pss_cons (ps_for PassesOwn.never rfl (kwU (K := K) rfl (pe_callF G__law_tuples (hr.mono (by first | decide | omega)) (pa_cons (pe_ix (kix (K := K) rfl) (pv 0) pe_int (fun _ _=>rfl)) (pa_cons (pe_callB (klen (K := K) rfl) (by rfl) T.n_len (by decide +kernel) (pa_cons (pv 4) pa_nil)) pa_nil)))) (pg_name (i := 7) S__law_listed.nd rfl (by first | exact .inl rfl | exact .inr rfl))
   (pss_cons (ps_setLc (i := 8) (own := [("_law_name",10)]) rfl S__law_listed.nd rfl rfl (sw_true rfl rfl rfl (by decide +kernel)) (kwU (K := K) rfl (pv 2)) (blkOk_by (own := [("_law_name",10)]) (N := N__law_listed) (sc := defScope s__law_listed) (by decide +kernel)) (fun _ _ _ _ _=>(pg_name (i := 10) S__law_listed.nd rfl (by first | exact .inl rfl | exact .inr rfl))) (fun _ _ _ _ _=>(pts_one (pt_cmpR op_gt (pe_ix (kix (K := K) rfl) (pv 7) (kbm (K := K) (id := "") rfl (pe_bm PySem.F.plainAttrs_list PySem.F.slot_list_index PySem.F.type_list_index (kindex (K := K) rfl) (pv 4) (pa_cons (pv 10) pa_nil))) (fun _ _=>rfl)) pe_int (nomark _)))) (fun _ _ _ _ _=>(pv 10)))
   (pss_cons (ps_set (i := 9) S__law_listed.nd rfl (by first | exact .inl rfl | exact .inr rfl) (pe_callF G__law_one (hr.mono (by first | decide | omega)) (pa_cons (pv 4) (pa_cons (pe_slice (ksl (K := K) rfl) (pv 8) po_none (po_some pe_int)) pa_nil))))
   (pss_one (ps_dput (hu_of hr) (pv 6) (pv 7) (pe_tup (pa_cons (pv 9) (pa_cons (pe_ifExp (pt_cmpR (kneD (K := K) rfl hr.units) (pv 8) (pe_lst pa_nil) (nomark _)) (pe_callF G__law_one (hr.mono (by first | decide | omega)) (pa_cons (pv 5) (pa_cons (pe_lst pa_nil) pa_nil))) (pe_callF G__law_one (hr.mono (by first | decide | omega)) (pa_cons (pv 5) (pa_cons (pv 3) pa_nil)))) pa_nil))) rfl)))))
   (pss_one (ps_ret (pv 6)))))),fun ds Qd h=>?_⟩
 obtain ⟨a,b,dp,r,k,order,rests,mine,theirs,rfl,hm,ht,hml,htl,hdp,hol,ho,q⟩ := h
 have e : (if k.1 = ("person" : Str) then D.tup [.lst (strsD b),.lst (strsD a)] else .tup [.lst (strsD a),.lst (strsD b)]) = .tup [.lst (strsD mine),.lst (strsD theirs)] := by
  rw [hm,ht]
  split <;> rfl
 refine ws_seq<|ws_asg<|ew_callP<|ea_cons<|ew_var rfl<|ea_cons<|ew_var rfl<|ea_nil ⟨_,_,_,_,_,k.1,_,rfl,rfl,?_⟩
 rw [e]
 refine gw_tup rfl<|gws_cons<|gw_name<|gws_cons<|gw_name<|gws_nil ?_
 refine ws_seq<|ws_asgN<|en_dnewT fun p=>?_
 have hA : (allC dp mine.length).length <= 64 := by
  rw [allC_len]
  exact Nat.le_trans (Nat.pow_le_pow_right (by omega) hml) (Nat.pow_le_pow_left (by omega : dp + 1 <= 4) 3)
 have hrow : ∀ cs ∈ allC dp mine.length,cs.length = mine.length := fun cs h=>(allC_row dp h).1
 have hnd := allC_nodup dp mine.length
 have eL : rowsL mine theirs order rests dp = (allC dp mine.length).map fun cs=>(cs,tkOf mine order cs,rstOf mine theirs order rests cs) := rfl
 rw [eL] at q
 refine ws_seq<|ws_for<|ei_seq (.lst ((allC dp mine.length).map intsT)) rfl<|ew_callP<|ea_cons<|ew_op<|ew_var rfl<|ew_int<|op2_ix (d := .int (dp : Nat)) rfl rfl<|ea_cons<|ew_cb<|ea_cons<|ew_var rfl<|ea_nil<|opa_len rfl<|ea_nil ⟨dp,mine.length,by rw [strsD_len],hdp,hml,rfl,?_⟩
 generalize allC dp mine.length = A at *
 generalize hF : (fun cs=>((cs,tkOf mine order cs,rstOf mine theirs order rests cs) : RowT)) = F at *
 have hF1 : ∀ cs,pairC (F cs) = (keyC cs,rowD (tkOf mine order cs) (rstOf mine theirs order rests cs)) := fun cs=>by rw [<- hF]; rfl
 refine ⟨fun i ρ=>∃ s7 s8 s9 : Sl,ρ = [.sh (.tup [.lst (strsD a),.lst (strsD b),.int (dp : Nat),r]),.sh (comerD k),.sh (.lst (strsD order)),.sh (.lst (strsD rests)),.sh (.lst (strsD mine)),.sh (.lst (strsD theirs)),.own p (.dt (((A.take i).map F).map pairC)),s7,s8,s9,.un],⟨_,_,_,rfl⟩,?_,?_⟩
 ·rintro i d ρ' hd ⟨s7,s8,s9,rfl⟩
  rw [List.getElem?_map] at hd
  obtain ⟨cs,hcs,rfl⟩ := Option.map_eq_some_iff.mp hd
  have hcl := hrow cs (List.mem_of_getElem? hcs)
  refine gw_name<|ws_seq<|ws_asg<|ew_new<|en_lcFt D.str order D.str (fun x=>decide (cntAt mine cs x > 0))<|ei_seq (.lst (strsD order)) rfl<|ew_var rfl ⟨rfl,rfl,rfl,by omega,fun x hx=>?_,gw_name ?_⟩
  ·have hxm := (ho x hx).1
   have hlt : mine.idxOf x < cs.length := by rw [hcl]; exact List.idxOf_lt_length_of_mem hxm
   have hat : (cs.map D.int)[mine.idxOf x]? = some (.int (cntAt mine cs x)) := by
    rw [List.getElem?_map,List.getElem?_eq_getElem hlt]
    unfold cntAt
    rw [List.getD_eq_getElem?_getD,List.getElem?_eq_getElem hlt]; rfl
   exact gv_name (by decide)<|et_test<|ew_op<|ew_op<|ew_var rfl<|ew_index<|ew_var rfl ⟨mine,rfl,ew_var rfl ⟨x,rfl,hxm,op2_ix (ds := cs.map D.int) rfl (atI_nat hat)<|ew_int<|op2_cmp ⟨_,rfl,rfl,rfl,fun _=>ew_var rfl ⟨rfl,rfl⟩⟩⟩⟩
  have hT : (order.filter fun x=>decide (cntAt mine cs x > 0)) = thereOf mine order cs := rfl
  rw [hT]
  refine ws_seq<|ws_asg<|ew_callP<|ea_cons<|ew_var rfl<|ea_cons<|ew_new<|en_slL<|ew_var rfl<|eo_none<|eo_some<|ew_int ⟨_,rfl,_,rfl,ea_nil ⟨mine,(thereOf mine order cs).take 1,by rw [show cutDD ((thereOf mine order cs).map D.str) none (some 1) = ((thereOf mine order cs).map D.str).take 1 from cut_to _ 1]; unfold strsD; rw [List.map_take],by omega,gw_name ?_⟩⟩
  refine ws_dputT (a := p)<|ew_tup<|ea_cons<|ew_var rfl<|ea_cons<|ew_weak (Q₁ := fun d ρ1=>d = intsT (rstOf mine theirs order rests cs) /\ ρ1 = [.sh (.tup [.lst (strsD a),.lst (strsD b),.int (dp : Nat),r]),.sh (comerD k),.sh (.lst (strsD order)),.sh (.lst (strsD rests)),.sh (.lst (strsD mine)),.sh (.lst (strsD theirs)),.own p (.dt (((A.take i).map F).map pairC)),.sh (intsT cs),.sh (.lst ((thereOf mine order cs).map D.str)),.sh (intsT (oneC mine ((thereOf mine order cs).take 1))),.un]) ?_ ?_
  ·have hso : ∀ x ∈ thereOf mine order cs,PyData.strOk x = true := fun x hx=>(ho x (List.mem_filter.mp hx).1).2
   refine ew_if<|et_test<|ew_op<|ew_var rfl<|ew_new<|en_lst<|ea_nil ⟨by show 0 <= 100000; decide,op2_ne_nil hso ⟨_,rfl,?_⟩⟩
   unfold rstOf
   cases thereOf mine order cs with
   | nil=>exact iteF<|ew_callP<|ea_cons<|ew_var rfl<|ea_cons<|ew_var rfl<|ea_nil ⟨theirs,rests,rfl,by omega,rfl,rfl⟩
   | cons y ys=>exact iteT<|ew_callP<|ea_cons<|ew_var rfl<|ea_cons<|ew_new<|en_lst<|ea_nil ⟨by show 0 <= 100000; decide,ea_nil ⟨theirs,[],rfl,by omega,rfl,rfl⟩⟩
  ·rintro d ρ1 ⟨rfl,rfl⟩
   refine ea_nil ⟨by show 2 <= 100000; decide,⟨_,rfl⟩,ew_var rfl ⟨keyC cs,_,(keyC_kD cs).symm,rfl,by rw [List.length_map,List.length_map,List.length_take]; omega,.sh (intsT cs),.sh (.lst ((thereOf mine order cs).map D.str)),.sh (intsT (oneC mine ((thereOf mine order cs).take 1))),?_⟩⟩
   have hni : keyC cs ∉ (((A.take i).map F).map pairC).map (·.1) := fun z=>by
    rw [List.map_map,List.map_map] at z
    obtain ⟨cs',h1,h2⟩ := List.mem_map.mp z
    have h2 : (pairC (F cs')).1 = keyC cs := h2
    rw [hF1] at h2
    have := keyC_inj _ _ h2
    subst this
    exact not_take hnd hcs h1
   show [_,_,_,_,_,_,Sl.own p (.dt (dput _ _ _)),_,_,_,_] = _
   rw [dput_app hni,take_snoc hcs,List.map_append,List.map_append,List.map_singleton,List.map_singleton,hF1]
   rfl
 ·rintro ρ' ⟨s7,s8,s9,rfl⟩
  rw [List.length_map,List.take_length]
  exact ws_retO (i := 6) rfl q
end
end K65
namespace K65
open PySem PySem.Spec PyProof.Rows L2 DL SrtK
variable [TabL]
def tblD (t : TB) : D := .tup [.lst (strsD t.waits),.lst (strsD t.frees),.int (t.depth : Nat),.dt (t.cs.map pairP)]
section
variable {P : Program} {w : World} {K : PySem.W.Frag} {mg : Str -> Option Value} {base : Heap}
def T__law_made : List D -> (D -> Prop) -> Prop := fun ds Q=>∃ t : TB,t.Ok /\ ds = [tblD t] /\ ∀ ps,Held t ps -> Q (tabI t ps)
abbrev N__law_made : List Str := ["_law_table"]
theorem S__law_made : FnScope N__law_made ["_law_table"] (defScope s__law_made) := ⟨rfl,rfl,rfl,by decide +kernel,rfl,by decide +kernel,by decide +kernel⟩
theorem ok__law_made (T : TX P K mg) : FnB P w K mg base 9 "_law_made" ["_law_table"] (spP K T__law_made) := by
 obtain ⟨fd,F⟩ := T.F__law_made
 have I_Table := ok_Table___init__ (P := P) (w := w) (base := base) T
 refine fn_P (k := 8) F T.g__law_made (fun _ _ _ _ _ _ us hl=>match us,hl with | [_],_=>rfl) S__law_made (fun ds Qd h=>by first | (obtain ⟨rfl,_⟩ := h; rfl) | (obtain ⟨_,rfl,_⟩ := h; rfl) | (obtain ⟨_,_,rfl,_⟩ := h; rfl) | (obtain ⟨_,_,_,rfl,_⟩ := h; rfl) | (obtain ⟨_,_,_,_,rfl,_⟩ := h; rfl) | (obtain ⟨_,_,_,_,_,rfl,_⟩ := h; rfl) | (obtain ⟨_,_,_,_,_,_,rfl,_⟩ := h; rfl) | (obtain ⟨_,_,_,_,_,_,_,rfl,_⟩ := h; rfl) | (obtain ⟨_,_,_,_,_,_,_,_,rfl,_⟩ := h; rfl) | (obtain ⟨_,_,_,_,_,_,_,_,_,rfl,_⟩ := h; rfl) | (obtain ⟨_,_,_,_,_,_,_,_,_,_,rfl,_⟩ := h; rfl) | (obtain ⟨_,_,_,_,_,_,_,_,_,_,_,rfl,_⟩ := h; rfl)) fun cdv A outer s H E hr=>⟨_,(pss_one (ps_ret (pe_makeF I_Table (hr.mono (by first | decide | omega)) (pa_cons (pe_ix (kix (K := K) rfl) (pv 0) pe_int (fun _ _=>rfl)) (pa_cons (pe_ix (kix (K := K) rfl) (pv 0) pe_int (fun _ _=>rfl)) (pa_cons (pe_ix (kix (K := K) rfl) (pv 0) pe_int (fun _ _=>rfl)) (pa_cons (pe_ix (kix (K := K) rfl) (pv 0) pe_int (fun _ _=>rfl)) pa_nil))))))),fun ds Qd h=>?_⟩
 obtain ⟨t,o,rfl,q⟩ := h
 exact ws_ret<|ew_make<|ea_cons<|ew_op<|ew_var rfl<|ew_int<|op2_ix (d := .lst (strsD t.waits)) rfl rfl<|ea_cons<|ew_op<|ew_var rfl<|ew_int<|op2_ix (d := .lst (strsD t.frees)) rfl rfl<|ea_cons<|ew_op<|ew_var rfl<|ew_int<|op2_ix (d := .int (t.depth : Nat)) rfl rfl<|ea_cons<|ew_op<|ew_var rfl<|ew_int<|op2_ix (d := .dt (t.cs.map pairP)) rfl rfl<|ea_nil ⟨t,o,rfl,q⟩
def T__law_after : List D -> (D -> Prop) -> Prop := fun ds Q=>∃ (t : TB) (b : List Int × List Int) (k : Str × Str) (rows : List RowT),t.Ok /\ BkOk t b /\ (k,rows) ∈ t.cs /\ ds = [tblD t,bookD b,comerD k] /\ ∀ b',t.aft b k rows = some b' -> Q (bookD b')
abbrev N__law_after : List Str := ["_law_table", "_law_book", "_law_comer", "_law_side", "_law_counts", "_law_taken", "_law_rests", "_law_mine", "_law_theirs", "_law_number", "_law_fewer", "_law_more"]
theorem S__law_after : FnScope N__law_after ["_law_table", "_law_book", "_law_comer"] (defScope s__law_after) := ⟨rfl,rfl,rfl,by decide +kernel,rfl,by decide +kernel,by decide +kernel⟩
theorem ok__law_after (T : TX P K mg) : FnB P w K mg base 1 "_law_after" ["_law_table", "_law_book", "_law_comer"] (spP K T__law_after) := by
 obtain ⟨fd,F⟩ := T.F__law_after
 refine fn_P (k := 0) F T.g__law_after (fun _ _ _ _ _ _ us hl=>match us,hl with | [_,_,_],_=>rfl) S__law_after (fun ds Qd h=>by first | (obtain ⟨rfl,_⟩ := h; rfl) | (obtain ⟨_,rfl,_⟩ := h; rfl) | (obtain ⟨_,_,rfl,_⟩ := h; rfl) | (obtain ⟨_,_,_,rfl,_⟩ := h; rfl) | (obtain ⟨_,_,_,_,rfl,_⟩ := h; rfl) | (obtain ⟨_,_,_,_,_,rfl,_⟩ := h; rfl) | (obtain ⟨_,_,_,_,_,_,rfl,_⟩ := h; rfl) | (obtain ⟨_,_,_,_,_,_,_,rfl,_⟩ := h; rfl) | (obtain ⟨_,_,_,_,_,_,_,_,rfl,_⟩ := h; rfl) | (obtain ⟨_,_,_,_,_,_,_,_,_,rfl,_⟩ := h; rfl) | (obtain ⟨_,_,_,_,_,_,_,_,_,_,rfl,_⟩ := h; rfl) | (obtain ⟨_,_,_,_,_,_,_,_,_,_,_,rfl,_⟩ := h; rfl)) fun cdv A outer s H E hr=>⟨_,(pss_cons (ps_set (i := 3) S__law_after.nd rfl (by first | exact .inl rfl | exact .inr rfl) (pe_ifExp (pt_cmpR op_eq (pe_ix (kix (K := K) rfl) (pv 2) pe_int (fun _ _=>rfl)) pe_str (nomark _)) pe_int pe_int))
   (pss_cons (ps_set (i := 4) S__law_after.nd rfl (by first | exact .inl rfl | exact .inr rfl) (pe_callTy (ktuple (K := K) rfl) (by rfl) T.n_tuple (by decide +kernel) (pa_cons (pe_lc (own := [("_law_number",9)]) rfl S__law_after.nd (kwU (K := K) rfl (pe_ix (kix (K := K) rfl) (pv 1) (pv 3) (fun _ _=>rfl))) (blkOk_by (own := [("_law_number",9)]) (N := N__law_after) (sc := defScope s__law_after) (by decide +kernel)) (fun _ _ _ _ _=>(pg_name (i := 9) S__law_after.nd rfl (by first | exact .inl rfl | exact .inr rfl))) (fun _ _ _ _ _=>pts_nil) (fun _ _ _ _ _=>(pe_callB (kminL rfl (K := K) rfl) (by rfl) T.n_min (by decide +kernel) (pa_cons (pe_lst (pa_cons (pv 9) (pa_cons (pe_ix (kix (K := K) rfl) (pv 0) pe_int (fun _ _=>rfl)) pa_nil))) pa_nil)))) pa_nil)))
   (pss_cons (ps_asg (pe_dget (hu_of hr) (pe_dget (hu_of hr) (pe_ix (kix (K := K) rfl) (pv 0) pe_int (fun _ _=>rfl)) (pv 2) (fun _ _=>rfl)) (pv 4) (fun _ _=>rfl)) (kgt (K := K) (n := 2) rfl rfl (pgs_cons (pg_name (i := 5) S__law_after.nd rfl (by first | exact .inl rfl | exact .inr rfl)) (pgs_cons (pg_name (i := 6) S__law_after.nd rfl (by first | exact .inl rfl | exact .inr rfl)) pgs_nil))))
   (pss_cons (ps_set (i := 7) S__law_after.nd rfl (by first | exact .inl rfl | exact .inr rfl) (pe_callTy (ktuple (K := K) rfl) (by rfl) T.n_tuple (by decide +kernel) (pa_cons (pe_lc (own := [("_law_number",9),("_law_fewer",10)]) rfl S__law_after.nd (kzipA (K := K) rfl (by rfl) T.n_zip (pa_cons (pe_ix (kix (K := K) rfl) (pv 1) (pv 3) (fun _ _=>rfl)) (pa_cons (pv 5) pa_nil))) (blkOk_by (own := [("_law_number",9),("_law_fewer",10)]) (N := N__law_after) (sc := defScope s__law_after) (by decide +kernel)) (fun _ _ _ _ _=>(kgt (K := K) (n := 2) rfl rfl (pgs_cons (pg_name (i := 9) S__law_after.nd rfl (by first | exact .inl rfl | exact .inr rfl)) (pgs_cons (pg_name (i := 10) S__law_after.nd rfl (by first | exact .inl rfl | exact .inr rfl)) pgs_nil)))) (fun _ _ _ _ _=>pts_nil) (fun _ _ _ _ _=>(pe_op op_sub (pv 9) (pv 10)))) pa_nil)))
   (pss_cons (ps_set (i := 8) S__law_after.nd rfl (by first | exact .inl rfl | exact .inr rfl) (pe_callTy (ktuple (K := K) rfl) (by rfl) T.n_tuple (by decide +kernel) (pa_cons (pe_lc (own := [("_law_number",9),("_law_more",11)]) rfl S__law_after.nd (kzipA (K := K) rfl (by rfl) T.n_zip (pa_cons (pe_ix (kix (K := K) rfl) (pv 1) (pe_op op_sub pe_int (pv 3)) (fun _ _=>rfl)) (pa_cons (pv 6) pa_nil))) (blkOk_by (own := [("_law_number",9),("_law_more",11)]) (N := N__law_after) (sc := defScope s__law_after) (by decide +kernel)) (fun _ _ _ _ _=>(kgt (K := K) (n := 2) rfl rfl (pgs_cons (pg_name (i := 9) S__law_after.nd rfl (by first | exact .inl rfl | exact .inr rfl)) (pgs_cons (pg_name (i := 11) S__law_after.nd rfl (by first | exact .inl rfl | exact .inr rfl)) pgs_nil)))) (fun _ _ _ _ _=>pts_nil) (fun _ _ _ _ _=>(pe_op op_add (pv 9) (pv 11)))) pa_nil)))
   (pss_one (ps_ret (pe_ifExp (pt_cmpR op_eq (pv 3) pe_int (nomark _)) (pe_tup (pa_cons (pv 8) (pa_cons (pv 7) pa_nil))) (pe_tup (pa_cons (pv 7) (pa_cons (pv 8) pa_nil))))))))))),fun ds Qd h=>?_⟩
 obtain ⟨t,b,k,rows,o,hb,hm,rfl,q⟩ := h
 have hw3 := o.w1.2
 have hf3 := o.f1.2
 have h1 := hb.l1
 have h2 := hb.l2
 have hd0 : (0 : Int) <= (t.depth : Nat) := Int.natCast_nonneg _
 have hr0 := o.rows _ hm
 have hcm : dget (t.cs.map pairP) (keyP k) = some (rowsD rows) := by rw [dget_comers,mem_rowsAt o hm]; rfl
 have eclip : ∀ xs : List Int,(xs.map D.int).map (fMin (t.depth : Nat)) = (clip (t.depth : Nat) xs).map D.int := fun xs=>by
  unfold clip
  rw [List.map_map,List.map_map]; rfl
 refine ws_seq<|ws_asg<|ew_weak (Q₁ := fun m ρ1=>m = .int (if k.1 = "person" then 1 else 0) /\ ρ1 = envP N__law_after [tblD t,bookD b,comerD k]) ?_ ?_
 ·refine ew_if<|et_test<|ew_op<|ew_op<|ew_var rfl<|ew_int<|op2_ix (d := .str k.1) rfl rfl<|ew_str<|op2_eq_str ⟨_,rfl,?_⟩
  by_cases c : k.1 = ("person" : Str)
  ·rw [decide_eq_true c,if_pos c]
   exact iteT<|ew_int ⟨rfl,rfl⟩
  ·rw [decide_eq_false c,if_neg c]
   exact iteF<|ew_int ⟨rfl,rfl⟩
 rintro m ρ1 ⟨rfl,rfl⟩
 by_cases c : k.1 = ("person" : Str)
 ·rw [if_pos c]
  obtain ⟨r,hr,hro⟩ := rowAt_ex hr0 (cs := clip (t.depth : Nat) b.2) (by rw [clip_len,h2]; unfold TB.ownN; rw [if_pos c]) (clip_ok hd0 hb.p2)
  have qq := q (zAdd b.1 r.2,zSub b.2 r.1) (by unfold TB.aft; rw [if_pos c,hr]; rfl)
  have hg2 : dget (rows.map pairC) (keyC (clip (t.depth : Nat) b.2)) = some (rowD r.1 r.2) := by rw [dget_rows,hr]; rfl
  refine gw_name<|ws_seq<|ws_asg<|ew_cb<|ea_cons<|ew_new<|en_lcM (f := fMin (t.depth : Nat))<|ei_seq (intsT b.2) rfl<|ew_op<|ew_var rfl<|ew_var rfl<|op2_ix (x := bookD b) (d := intsT b.2) rfl rfl ⟨rfl,rfl,by rw [List.length_map]; omega,fun i y hy=>?_,ea_nil<|opa_tuple rfl<|gw_name ?_⟩
  ·rw [List.getElem?_map] at hy
   obtain ⟨j,hj,rfl⟩ := Option.map_eq_some_iff.mp hy
   exact gv_name (by decide)<|ew_cb<|ea_cons<|ew_new<|en_lst<|ea_cons<|ew_var rfl<|ea_cons<|ew_op<|ew_var rfl<|ew_int<|op2_ix (x := tblD t) (d := .int (t.depth : Nat)) rfl rfl<|ea_nil ⟨by show 2 <= 100000; decide,ea_nil<|opa_minL2 ⟨rfl,rfl⟩⟩
  rw [eclip]
  refine ws_seq<|ws_asg<|ew_dgetkT<|ew_dgetkT<|ew_op<|ew_var rfl<|ew_int<|op2_ix (x := tblD t) (d := .dt (t.cs.map pairP)) rfl rfl<|ew_var rfl ⟨keyP k,_,rowsD rows,rfl,rfl,hcm,ew_var rfl ⟨keyC (clip (t.depth : Nat) b.2),_,rowD r.1 r.2,(keyC_kD _).symm,rfl,hg2,gw_tup rfl<|gws_cons<|gw_name<|gws_cons<|gw_name<|gws_nil ?_⟩⟩
  show WS K _ [.sh (tblD t),.sh (bookD b),.sh (comerD k),.sh (.int 1),.sh (intsT (clip (t.depth : Nat) b.2)),.sh (intsT r.1),.sh (intsT r.2),.un,.un,.un,.un,.un] _
  refine ws_seq<|ws_asg<|ew_cb<|ea_cons<|ew_new<|en_lcM (f := fSub)<|ei_zip<|ea_cons<|ew_op<|ew_var rfl<|ew_var rfl<|op2_ix (x := bookD b) (d := intsT b.2) rfl rfl<|ea_cons<|ew_var rfl<|ea_nil ⟨_,_,.inr rfl,rfl,?_,fun i y hy=>?_,ea_nil<|opa_tuple rfl<|gw_name ?_⟩
  ·rw [zipD_len,List.length_map]; omega
  ·obtain ⟨a,c,_,_,rfl⟩ := zip_ints hy
   exact gv_tup rfl<|gvs_cons<|gv_name (by decide)<|gvs_cons<|gv_name (by decide)<|gvs_nil<|ew_op<|ew_var rfl<|ew_var rfl<|op2_int ⟨rfl,rfl⟩
  rw [zip_map (f := (· - ·)) (fun _ _=>rfl)]
  show WS K _ [.sh (tblD t),.sh (bookD b),.sh (comerD k),.sh (.int 1),.sh (intsT (clip (t.depth : Nat) b.2)),.sh (intsT r.1),.sh (intsT r.2),.sh (intsT (zSub b.2 r.1)),.un,.un,.un,.un] _
  refine ws_seq<|ws_asg<|ew_cb<|ea_cons<|ew_new<|en_lcM (f := fAdd)<|ei_zip<|ea_cons<|ew_op<|ew_var rfl<|ew_op<|ew_int<|ew_var rfl<|op2_int<|op2_ix (x := bookD b) (d := intsT b.1) rfl rfl<|ea_cons<|ew_var rfl<|ea_nil ⟨_,_,.inr rfl,rfl,?_,fun i y hy=>?_,ea_nil<|opa_tuple rfl<|gw_name ?_⟩
  ·rw [zipD_len,List.length_map]; omega
  ·obtain ⟨a,c,_,_,rfl⟩ := zip_ints hy
   exact gv_tup rfl<|gvs_cons<|gv_name (by decide)<|gvs_cons<|gv_name (by decide)<|gvs_nil<|ew_op<|ew_var rfl<|ew_var rfl<|op2_int ⟨rfl,rfl⟩
  rw [zip_map (f := (· + ·)) (fun _ _=>rfl)]
  show WS K _ [.sh (tblD t),.sh (bookD b),.sh (comerD k),.sh (.int 1),.sh (intsT (clip (t.depth : Nat) b.2)),.sh (intsT r.1),.sh (intsT r.2),.sh (intsT (zSub b.2 r.1)),.sh (intsT (zAdd b.1 r.2)),.un,.un,.un] _
  refine ws_ret<|ew_if<|et_test<|ew_op<|ew_var rfl<|ew_int<|op2_eq_int ⟨_,rfl,?_⟩
  rw [decide_eq_true (show (1 : Int) = 1 by decide)]
  exact iteT<|ew_tup<|ea_cons<|ew_var rfl<|ea_cons<|ew_var rfl<|ea_nil ⟨by show 2 <= 100000; decide,qq⟩
 ·rw [if_neg c]
  obtain ⟨r,hr,hro⟩ := rowAt_ex hr0 (cs := clip (t.depth : Nat) b.1) (by rw [clip_len,h1]; unfold TB.ownN; rw [if_neg c]) (clip_ok hd0 hb.p1)
  have qq := q (zSub b.1 r.1,zAdd b.2 r.2) (by unfold TB.aft; rw [if_neg c,hr]; rfl)
  have hg2 : dget (rows.map pairC) (keyC (clip (t.depth : Nat) b.1)) = some (rowD r.1 r.2) := by rw [dget_rows,hr]; rfl
  refine gw_name<|ws_seq<|ws_asg<|ew_cb<|ea_cons<|ew_new<|en_lcM (f := fMin (t.depth : Nat))<|ei_seq (intsT b.1) rfl<|ew_op<|ew_var rfl<|ew_var rfl<|op2_ix (x := bookD b) (d := intsT b.1) rfl rfl ⟨rfl,rfl,by rw [List.length_map]; omega,fun i y hy=>?_,ea_nil<|opa_tuple rfl<|gw_name ?_⟩
  ·rw [List.getElem?_map] at hy
   obtain ⟨j,hj,rfl⟩ := Option.map_eq_some_iff.mp hy
   exact gv_name (by decide)<|ew_cb<|ea_cons<|ew_new<|en_lst<|ea_cons<|ew_var rfl<|ea_cons<|ew_op<|ew_var rfl<|ew_int<|op2_ix (x := tblD t) (d := .int (t.depth : Nat)) rfl rfl<|ea_nil ⟨by show 2 <= 100000; decide,ea_nil<|opa_minL2 ⟨rfl,rfl⟩⟩
  rw [eclip]
  refine ws_seq<|ws_asg<|ew_dgetkT<|ew_dgetkT<|ew_op<|ew_var rfl<|ew_int<|op2_ix (x := tblD t) (d := .dt (t.cs.map pairP)) rfl rfl<|ew_var rfl ⟨keyP k,_,rowsD rows,rfl,rfl,hcm,ew_var rfl ⟨keyC (clip (t.depth : Nat) b.1),_,rowD r.1 r.2,(keyC_kD _).symm,rfl,hg2,gw_tup rfl<|gws_cons<|gw_name<|gws_cons<|gw_name<|gws_nil ?_⟩⟩
  show WS K _ [.sh (tblD t),.sh (bookD b),.sh (comerD k),.sh (.int 0),.sh (intsT (clip (t.depth : Nat) b.1)),.sh (intsT r.1),.sh (intsT r.2),.un,.un,.un,.un,.un] _
  refine ws_seq<|ws_asg<|ew_cb<|ea_cons<|ew_new<|en_lcM (f := fSub)<|ei_zip<|ea_cons<|ew_op<|ew_var rfl<|ew_var rfl<|op2_ix (x := bookD b) (d := intsT b.1) rfl rfl<|ea_cons<|ew_var rfl<|ea_nil ⟨_,_,.inr rfl,rfl,?_,fun i y hy=>?_,ea_nil<|opa_tuple rfl<|gw_name ?_⟩
  ·rw [zipD_len,List.length_map]; omega
  ·obtain ⟨a,c,_,_,rfl⟩ := zip_ints hy
   exact gv_tup rfl<|gvs_cons<|gv_name (by decide)<|gvs_cons<|gv_name (by decide)<|gvs_nil<|ew_op<|ew_var rfl<|ew_var rfl<|op2_int ⟨rfl,rfl⟩
  rw [zip_map (f := (· - ·)) (fun _ _=>rfl)]
  show WS K _ [.sh (tblD t),.sh (bookD b),.sh (comerD k),.sh (.int 0),.sh (intsT (clip (t.depth : Nat) b.1)),.sh (intsT r.1),.sh (intsT r.2),.sh (intsT (zSub b.1 r.1)),.un,.un,.un,.un] _
  refine ws_seq<|ws_asg<|ew_cb<|ea_cons<|ew_new<|en_lcM (f := fAdd)<|ei_zip<|ea_cons<|ew_op<|ew_var rfl<|ew_op<|ew_int<|ew_var rfl<|op2_int<|op2_ix (x := bookD b) (d := intsT b.2) rfl rfl<|ea_cons<|ew_var rfl<|ea_nil ⟨_,_,.inr rfl,rfl,?_,fun i y hy=>?_,ea_nil<|opa_tuple rfl<|gw_name ?_⟩
  ·rw [zipD_len,List.length_map]; omega
  ·obtain ⟨a,c,_,_,rfl⟩ := zip_ints hy
   exact gv_tup rfl<|gvs_cons<|gv_name (by decide)<|gvs_cons<|gv_name (by decide)<|gvs_nil<|ew_op<|ew_var rfl<|ew_var rfl<|op2_int ⟨rfl,rfl⟩
  rw [zip_map (f := (· + ·)) (fun _ _=>rfl)]
  show WS K _ [.sh (tblD t),.sh (bookD b),.sh (comerD k),.sh (.int 0),.sh (intsT (clip (t.depth : Nat) b.1)),.sh (intsT r.1),.sh (intsT r.2),.sh (intsT (zSub b.1 r.1)),.sh (intsT (zAdd b.2 r.2)),.un,.un,.un] _
  refine ws_ret<|ew_if<|et_test<|ew_op<|ew_var rfl<|ew_int<|op2_eq_int ⟨_,rfl,?_⟩
  rw [decide_eq_false (show ¬ (0 : Int) = 1 by decide)]
  exact iteF<|ew_tup<|ea_cons<|ew_var rfl<|ea_cons<|ew_var rfl<|ea_nil ⟨by show 2 <= 100000; decide,qq⟩
end
end K65
set_option maxHeartbeats 2000000
namespace K65
open PySem PySem.Spec PyProof.Rows L2 DL SrtK
variable [TabL]
def abx : List Str := ["a", "b", "x"]
def xy : List Str := ["x", "y"]
def KS : List (Str × Str) := [("person", "a"),("person", "p"),("place", "x"),("place", "b")]
structure SortsOk (xs : List Str) : Prop where
 len : 1 <= xs.length /\ xs.length <= 3
 nd : xs.Nodup
 nm : ∀ x ∈ xs,isNameS x = true
 so : ∀ x ∈ xs,PyData.strOk x = true
theorem abx_ok (r : Nat) : SortsOk (abx.take (r + 1)) := by
 have h : ∀ x ∈ abx,isNameS x = true /\ PyData.strOk x = true := by decide +kernel
 have hn : abx.Nodup := by decide +kernel
 refine ⟨?_,(List.take_sublist ..).nodup hn,fun x hx=>(h x (List.mem_of_mem_take hx)).1,fun x hx=>(h x (List.mem_of_mem_take hx)).2⟩
 rw [List.length_take]
 show 1 <= min (r + 1) 3 /\ min (r + 1) 3 <= 3
 omega
theorem xy_ok (r : Nat) : SortsOk (xy.take (r + 1)) := by
 have h : ∀ x ∈ xy,isNameS x = true /\ PyData.strOk x = true := by decide +kernel
 have hn : xy.Nodup := by decide +kernel
 refine ⟨?_,(List.take_sublist ..).nodup hn,fun x hx=>(h x (List.mem_of_mem_take hx)).1,fun x hx=>(h x (List.mem_of_mem_take hx)).2⟩
 rw [List.length_take]
 show 1 <= min (r + 1) 2 /\ min (r + 1) 2 <= 3
 omega
theorem KS_ok : KS.Nodup /\ ∀ k ∈ KS,sideS k.1 = true /\ isNameS k.2 = true := by decide +kernel
theorem cut_one (ys : List Str) {r : Int} (h : 0 <= r) : cutDD (strsD ys) none (some (1 + r)) = strsD (ys.take (r.toNat + 1)) := by
 rw [show (1 + r) = ((r.toNat + 1 : Nat) : Int) by omega,cut_to]
 unfold strsD
 rw [List.map_take]
theorem cut_r (ys : List Str) {r : Int} (h : 0 <= r) : cutDD (strsD ys) none (some r) = strsD (ys.take r.toNat) := by
 have e : r = ((r.toNat : Nat) : Int) := by omega
 have := cut_to (strsD ys) r.toNat
 rw [<- e] at this
 rw [this]
 unfold strsD
 rw [List.map_take]
def InKS (t : TB) : Prop := ∀ c ∈ t.cs,c.1 ∈ KS
structure CsOk (t : TB) (i : Nat) : Prop where
 sub : ∀ c ∈ t.cs,c.1 ∈ KS.take i
 nd : (t.cs.map (·.1)).Nodup
 len : t.cs.length <= i
 rows : ∀ c ∈ t.cs,RowsOk (t.ownN c.1.1) (t.otherN c.1.1) t.depth c.2
theorem CsOk.ok {t : TB} {i : Nat} (h : CsOk t i) (hi : i <= 4) (w : SortsOk t.waits) (f : SortsOk t.frees) (d : 1 <= t.depth /\ t.depth <= 3) : t.Ok where
 w1 := w.len
 f1 := f.len
 wn := w.nd
 fn := f.nd
 wi := w.nm
 fi := f.nm
 d1 := d
 len := Nat.le_trans h.len hi
 nd := h.nd
 side := fun c hc=>(KS_ok.2 _ (List.mem_of_mem_take (h.sub c hc))).1
 name := fun c hc=>(KS_ok.2 _ (List.mem_of_mem_take (h.sub c hc))).2
 rows := h.rows
section
variable {P : Program} {w : World} {K : PySem.W.Frag} {mg : Str -> Option Value} {base : Heap}
def T__law_drawn : TVp := fun ds Q=>∃ m : Nat,ds = [.int (m : Nat)] /\ 1 <= m /\ m <= 3 /\ ∀ t : TB,t.Ok -> InKS t -> Q (tblD t)
abbrev N__law_drawn : List Str := ["_law_stream_here", "_law_most", "_law_waits", "_law_frees", "_law_table", "_law_comer", "_law_mine", "_law_theirs", "_law_order", "_law_rests"]
theorem S__law_drawn : FnScope N__law_drawn ["_law_stream_here", "_law_most"] (defScope s__law_drawn) := ⟨rfl,rfl,rfl,by decide +kernel,rfl,by decide +kernel,by decide +kernel⟩
theorem ok__law_drawn (T : TX P K mg) : FnX P w K mg base 3 "_law_drawn" ["_law_stream_here", "_law_most"] (spU K (TV 40 T__law_drawn)) := by
 obtain ⟨fd,F⟩ := T.F__law_drawn
 have G__law_draw := ok__law_draw (P := P) (w := w) (base := base) T
 have G__law_sides := ok__law_sides (P := P) (w := w) (base := base) T
 have G__law_mix := ok__law_mix (P := P) (w := w) (base := base) T
 have G__law_pick := ok__law_pick (P := P) (w := w) (base := base) T
 have G__law_listed := ok__law_listed (P := P) (w := w) (base := base) T
 refine fn_VX (k := 2) F T.g__law_drawn (fun _ _ _ _ _ _ us hl=>match us,hl with | [_,_],_=>rfl) S__law_drawn (fun ds Qd h=>by first | (obtain ⟨rfl,_⟩ := h; rfl) | (obtain ⟨_,rfl,_⟩ := h; rfl) | (obtain ⟨_,_,rfl,_⟩ := h; rfl) | (obtain ⟨_,_,_,rfl,_⟩ := h; rfl) | (obtain ⟨_,_,_,_,rfl,_⟩ := h; rfl) | (obtain ⟨_,_,_,_,_,rfl,_⟩ := h; rfl) | (obtain ⟨_,_,_,_,_,_,rfl,_⟩ := h; rfl) | (obtain ⟨_,_,_,_,_,_,_,rfl,_⟩ := h; rfl) | (obtain ⟨_,_,_,_,_,_,_,_,rfl,_⟩ := h; rfl) | (obtain ⟨_,_,_,_,_,_,_,_,_,rfl,_⟩ := h; rfl) | (obtain ⟨_,_,_,_,_,_,_,_,_,_,rfl,_⟩ := h; rfl) | (obtain ⟨_,_,_,_,_,_,_,_,_,_,_,rfl,_⟩ := h; rfl)) fun cdv A outer s H W hcd hr tk po=>⟨_,(pss_cons (ps_par (i := 2) (j := 3) (by rfl) S__law_drawn.nd rfl rfl (by decide) (by rfl) (by rfl) (pa_cons (pe_slice (ksl (K := K) rfl) (pe_lst (pa_cons pe_str (pa_cons pe_str (pa_cons pe_str pa_nil)))) po_none (po_some (pe_op op_add pe_int (pe_callX G__law_draw tk (fun _ _ _ _ h=>h) (hr.mono (by first | decide | omega)) (pa_cons (pv 0) (pa_cons pe_int pa_nil)))))) (pa_cons (pe_slice (ksl (K := K) rfl) (pe_lst (pa_cons pe_str (pa_cons pe_str pa_nil))) po_none (po_some (pe_op op_add pe_int (pe_callX G__law_draw tk (fun _ _ _ _ h=>h) (hr.mono (by first | decide | omega)) (pa_cons (pv 0) (pa_cons pe_int pa_nil)))))) pa_nil)) (by rfl))
   (pss_cons (ps_set (i := 4) S__law_drawn.nd rfl (by first | exact .inl rfl | exact .inr rfl) (pe_tup (pa_cons (pv 2) (pa_cons (pv 3) (pa_cons (pe_op op_add pe_int (pe_callX G__law_draw tk (fun _ _ _ _ h=>h) (hr.mono (by first | decide | omega)) (pa_cons (pv 0) (pa_cons (pv 1) pa_nil)))) (pa_cons pe_dnewT pa_nil))))))
   (pss_cons (ps_for po rfl (kwU (K := K) rfl (pe_lst (pa_cons (pe_tup (pa_cons pe_str (pa_cons pe_str pa_nil))) (pa_cons (pe_tup (pa_cons pe_str (pa_cons pe_str pa_nil))) (pa_cons (pe_tup (pa_cons pe_str (pa_cons pe_str pa_nil))) (pa_cons (pe_tup (pa_cons pe_str (pa_cons pe_str pa_nil))) pa_nil)))))) (pg_name (i := 5) S__law_drawn.nd rfl (by first | exact .inl rfl | exact .inr rfl))
   (pss_one (ps_if (pt_cmpR op_gt (pe_callX G__law_draw tk (fun _ _ _ _ h=>h) (hr.mono (by first | decide | omega)) (pa_cons (pv 0) (pa_cons pe_int pa_nil))) pe_int (nomark _)) (pss_cons (ps_asg (pe_callF G__law_sides (hr.mono (by first | decide | omega)) (pa_cons (pv 4) (pa_cons (pv 5) pa_nil))) (kgt (K := K) (n := 2) rfl rfl (pgs_cons (pg_name (i := 6) S__law_drawn.nd rfl (by first | exact .inl rfl | exact .inr rfl)) (pgs_cons (pg_name (i := 7) S__law_drawn.nd rfl (by first | exact .inl rfl | exact .inr rfl)) pgs_nil))))
   (pss_cons (ps_set (i := 8) S__law_drawn.nd rfl (by first | exact .inl rfl | exact .inr rfl) (pe_slice (ksl (K := K) rfl) (pe_callX G__law_mix tk (fun _ _ _ _ h=>h) (hr.mono (by first | decide | omega)) (pa_cons (pv 0) (pa_cons (pv 6) pa_nil))) po_none (po_some (pe_callX G__law_draw tk (fun _ _ _ _ h=>h) (hr.mono (by first | decide | omega)) (pa_cons (pv 0) (pa_cons (pe_op op_add (pe_callB (klen (K := K) rfl) (by rfl) T.n_len (by decide +kernel) (pa_cons (pv 6) pa_nil)) pe_int) pa_nil))))))
   (pss_cons (ps_set (i := 9) S__law_drawn.nd rfl (by first | exact .inl rfl | exact .inr rfl) (pe_ifExp (pt_cmpR op_gt (pe_callX G__law_draw tk (fun _ _ _ _ h=>h) (hr.mono (by first | decide | omega)) (pa_cons (pv 0) (pa_cons pe_int pa_nil))) pe_int (nomark _)) (pe_lst (pa_cons (pe_callX G__law_pick tk (fun _ _ _ _ h=>h) (hr.mono (by first | decide | omega)) (pa_cons (pv 0) (pa_cons (pv 7) pa_nil))) pa_nil)) (pe_lst pa_nil)))
   (pss_one (ps_dput (hu_of hr) (pe_ix (kix (K := K) rfl) (pv 4) pe_int (fun _ _=>rfl)) (pv 5) (pe_callF G__law_listed (hr.mono (by first | decide | omega)) (pa_cons (pv 4) (pa_cons (pv 5) (pa_cons (pv 8) (pa_cons (pv 9) pa_nil))))) rfl))))) pss_nil)))
   (pss_one (ps_ret (pv 4)))))),fun a p n ds Qd hb h=>?_⟩
 obtain ⟨m,rfl,hm1,hm3,q⟩ := h
 refine ws_seq<|ws_par<|ea_cons<|ew_new<|en_slL<|ew_new<|en_lst<|ea_cons<|ew_str<|ea_cons<|ew_str<|ea_cons<|ew_str<|ea_nil ⟨by show 3 <= 100000; decide,eo_none<|eo_some<|ew_op<|ew_int<|ew_callV (n + 39) rfl<|ea_cons<|ew_int<|ea_nil ⟨p,rfl,hb,3,rfl,by decide,by decide,fun r hr0 hr1 p1 hb1=>op2_int ⟨_,rfl,strsD abx,rfl,?_⟩⟩⟩
 rw [cut_one _ hr0]
 have hw := abx_ok r.toNat
 generalize abx.take (r.toNat + 1) = W at *
 refine ea_cons<|ew_new<|en_slL<|ew_new<|en_lst<|ea_cons<|ew_str<|ea_cons<|ew_str<|ea_nil ⟨by show 2 <= 100000; decide,eo_none<|eo_some<|ew_op<|ew_int<|ew_callV (n + 38) rfl<|ea_cons<|ew_int<|ea_nil ⟨p1,rfl,hb1,2,rfl,by decide,by decide,fun r2 hr20 hr21 p2 hb2=>op2_int ⟨_,rfl,strsD xy,rfl,?_⟩⟩⟩
 rw [cut_one _ hr20]
 have hf := xy_ok r2.toNat
 generalize xy.take (r2.toNat + 1) = F at *
 refine ea_nil ⟨_,_,rfl,?_⟩
 show WS K _ [.own a (stD p2),.sh (.int (m : Nat)),.sh (.lst (strsD W)),.sh (.lst (strsD F)),.un,.un,.un,.un,.un,.un] _
 refine ws_seq<|ws_asgTab<|ew_var rfl<|ew_var rfl<|ew_op<|ew_int<|ew_callV (n + 37) rfl<|ea_cons<|ew_var rfl<|ea_nil ⟨p2,rfl,hb2,_,rfl,by omega,by omega,fun r3 hr30 hr31 p3 hb3=>op2_int<|en_dnewT ⟨[],rfl,fun ta=>?_⟩⟩
 obtain ⟨dp,hdp,hd1,hd3⟩ : ∃ dp : Nat,(1 + r3 : Int) = (dp : Nat) /\ 1 <= dp /\ dp <= 3 := ⟨(1 + r3).toNat,by omega,by omega,by omega⟩
 rw [hdp]
 refine ws_seq<|ws_for<|ei_seq (.lst (KS.map comerD)) rfl<|ew_new<|en_lst<|ea_cons<|ew_tup<|ea_cons<|ew_str<|ea_cons<|ew_str<|ea_nil ⟨by show 2 <= 100000; decide,ea_cons<|ew_tup<|ea_cons<|ew_str<|ea_cons<|ew_str<|ea_nil ⟨by show 2 <= 100000; decide,ea_cons<|ew_tup<|ea_cons<|ew_str<|ea_cons<|ew_str<|ea_nil ⟨by show 2 <= 100000; decide,ea_cons<|ew_tup<|ea_cons<|ew_str<|ea_cons<|ew_str<|ea_nil ⟨by show 2 <= 100000; decide,ea_nil ⟨by show 4 <= 100000; decide,rfl,fun i ρ=>∃ (p' : P3) (cs : List ComerT) (s5 s6 s7 s8 s9 : Sl),ρ = [.own a (stD p'),.sh (.int (m : Nat)),.sh (.lst (strsD W)),.sh (.lst (strsD F)),tab K ta [.lst (strsD W),.lst (strsD F),.int (dp : Nat)] (cs.map pairP),s5,s6,s7,s8,s9] /\ CsOk ⟨W,F,dp,cs⟩ i /\ Bud (n + 8 * (4 - i)) p',⟨p3,[],_,_,_,_,_,rfl,⟨fun c hc=>(nomatch hc),List.nodup_nil,Nat.le_refl _,fun c hc=>(nomatch hc)⟩,hb3.less (by omega)⟩,?_,?_⟩⟩⟩⟩⟩
 ·rintro i d ρ' hd ⟨p',cs,s5,s6,s7,s8,s9,rfl,hcs,hb'⟩
  rw [List.getElem?_map] at hd
  obtain ⟨k,hk,rfl⟩ := Option.map_eq_some_iff.mp hd
  have hlt : i < 4 := (List.getElem?_eq_some_iff.mp hk).1
  have keep : CsOk ⟨W,F,dp,cs⟩ (i + 1) := ⟨fun c hc=>by rw [take_snoc hk]; exact List.mem_append_left _ (hcs.sub c hc),hcs.nd,Nat.le_succ_of_le hcs.len,hcs.rows⟩
  refine gw_name<|ws_if<|et_test<|ew_op<|ew_callV (n + 8 * (4 - (i + 1)) + 7) rfl<|ea_cons<|ew_int<|ea_nil ⟨p',rfl,hb'.less (by omega),3,rfl,by decide,by decide,fun r5 _ _ p5 hb5=>ew_int<|op2_cmp ⟨_,rfl,ite_b (fun _=>?_) (fun _=>ws_next ⟨p5,cs,_,_,_,_,_,rfl,keep,hb5.less (by omega)⟩)⟩⟩
  show WS K _ [.own a (stD p5),.sh (.int (m : Nat)),.sh (.lst (strsD W)),.sh (.lst (strsD F)),tab K ta [.lst (strsD W),.lst (strsD F),.int (dp : Nat)] (cs.map pairP),.sh (comerD k),s6,s7,s8,s9] _
  obtain ⟨mine,hm⟩ : ∃ mine,mine = (if k.1 = ("person" : Str) then F else W) := ⟨_,rfl⟩
  obtain ⟨theirs,ht⟩ : ∃ theirs,theirs = (if k.1 = ("person" : Str) then W else F) := ⟨_,rfl⟩
  have hmo : SortsOk mine := by rw [hm]; split <;> assumption
  have hto : SortsOk theirs := by rw [ht]; split <;> assumption
  have e : (if k.1 = ("person" : Str) then D.tup [.lst (strsD F),.lst (strsD W)] else .tup [.lst (strsD W),.lst (strsD F)]) = .tup [.lst (strsD mine),.lst (strsD theirs)] := by
   rw [hm,ht]
   split <;> rfl
  refine ws_seq<|ws_asg<|ew_callP<|ea_cons<|ew_varTab rfl<|ea_cons<|ew_var rfl<|ea_nil ⟨_,_,_,_,_,k.1,_,rfl,rfl,?_⟩
  rw [e]
  refine gw_tup rfl<|gws_cons<|gw_name<|gws_cons<|gw_name<|gws_nil ?_
  show WS K _ [.own a (stD p5),.sh (.int (m : Nat)),.sh (.lst (strsD W)),.sh (.lst (strsD F)),tab K ta [.lst (strsD W),.lst (strsD F),.int (dp : Nat)] (cs.map pairP),.sh (comerD k),.sh (.lst (strsD mine)),.sh (.lst (strsD theirs)),s8,s9] _
  have hml := hmo.len
  have htl := hto.len
  refine ws_seq<|ws_asg<|ew_new<|en_slL<|ew_callV (n + 8 * (4 - (i + 1)) + 4) rfl<|ea_cons<|ew_var rfl<|ea_nil ⟨p5,rfl,hb5.less (by omega),mine,rfl,hmo.len.2,fun ys hys p6 hb6=>eo_none<|eo_some<|ew_callV (n + 8 * (4 - (i + 1)) + 3) rfl<|ea_cons<|ew_op<|ew_cb<|ea_cons<|ew_var rfl<|ea_nil<|opa_len rfl<|ew_int<|op2_int<|ea_nil ⟨p6,rfl,hb6.less (by omega),_,rfl,by rw [strsD_len]; omega,by rw [strsD_len]; omega,fun r6 hr60 _ p7 hb7=>⟨_,rfl,strsD ys,rfl,?_⟩⟩⟩
  rw [cut_r _ hr60]
  have ho : ∀ x ∈ ys.take r6.toNat,x ∈ mine /\ PyData.strOk x = true := fun x hx=>by
   have h1 := hys.mem_iff.mp (List.mem_of_mem_take hx)
   exact ⟨h1,hmo.so x h1⟩
  have hol : (ys.take r6.toNat).length <= 10 := by
   rw [List.length_take,hys.length_eq]; omega
  generalize ys.take r6.toNat = order at *
  refine gw_name ?_
  show WS K _ [.own a (stD p7),.sh (.int (m : Nat)),.sh (.lst (strsD W)),.sh (.lst (strsD F)),tab K ta [.lst (strsD W),.lst (strsD F),.int (dp : Nat)] (cs.map pairP),.sh (comerD k),.sh (.lst (strsD mine)),.sh (.lst (strsD theirs)),.sh (.lst (strsD order)),s9] _
  refine ws_seq<|ws_asg<|ew_weak (Q₁ := fun d ρ1=>∃ (p9 : P3) (rests : List Str),d = .lst (strsD rests) /\ Bud (n + 8 * (4 - (i + 1))) p9 /\ ρ1 = [.own a (stD p9),.sh (.int (m : Nat)),.sh (.lst (strsD W)),.sh (.lst (strsD F)),tab K ta [.lst (strsD W),.lst (strsD F),.int (dp : Nat)] (cs.map pairP),.sh (comerD k),.sh (.lst (strsD mine)),.sh (.lst (strsD theirs)),.sh (.lst (strsD order)),s9]) ?_ ?_
  ·refine ew_if<|et_test<|ew_op<|ew_callV (n + 8 * (4 - (i + 1)) + 2) rfl<|ea_cons<|ew_int<|ea_nil ⟨p7,rfl,hb7.less (by omega),4,rfl,by decide,by decide,fun r8 _ _ p8 hb8=>ew_int<|op2_cmp ⟨_,rfl,ite_b (fun _=>?_) (fun _=>ew_new<|en_lst<|ea_nil ⟨by show 0 <= 100000; decide,p8,[],rfl,hb8.less (by omega),rfl⟩)⟩⟩
   refine ew_new<|en_lst<|ea_cons<|ew_pick (n + 8 * (4 - (i + 1))) rfl<|ea_cons<|ew_var rfl<|ea_nil ⟨p8,rfl,hb8.less (by omega),_,strsD theirs,rfl,rfl,by rw [strsD_len]; omega,by rw [strsD_len]; omega,fun d hd p9 hb9=>?_⟩
   obtain ⟨x,hx,rfl⟩ := List.mem_map.mp hd
   exact ea_nil ⟨by show 1 <= 100000; decide,p9,[x],rfl,hb9,rfl⟩
  rintro d ρ1 ⟨p9,rests,rfl,hb9,rfl⟩
  refine gw_name ?_
  show WS K _ [.own a (stD p9),.sh (.int (m : Nat)),.sh (.lst (strsD W)),.sh (.lst (strsD F)),tab K ta [.lst (strsD W),.lst (strsD F),.int (dp : Nat)] (cs.map pairP),.sh (comerD k),.sh (.lst (strsD mine)),.sh (.lst (strsD theirs)),.sh (.lst (strsD order)),.sh (.lst (strsD rests))] _
  have hkn : k ∉ cs.map (·.1) := fun z=>by
   obtain ⟨c,hc,rfl⟩ := List.mem_map.mp z
   exact not_take KS_ok.1 hk (hcs.sub c hc)
  refine ws_dputTab (i := 4)<|ew_callP<|ea_cons<|ew_varTab rfl<|ea_cons<|ew_var rfl<|ea_cons<|ew_var rfl<|ea_cons<|ew_var rfl<|ea_nil ⟨W,F,dp,_,k,order,rests,mine,theirs,rfl,hm,ht,hml.2,htl.2,hd3,hol,ho,rfl,rfl,ew_var rfl ⟨keyP k,_,rfl,rfl,?_,p9,cs ++ [(k,rowsL mine theirs order rests dp)],.sh (comerD k),.sh (.lst (strsD mine)),.sh (.lst (strsD theirs)),.sh (.lst (strsD order)),.sh (.lst (strsD rests)),?_,?_,hb9⟩⟩
  ·have := hcs.len
   rw [List.length_map]
   show cs.length < 90000
   have : cs.length <= i := hcs.len
   omega
  ·show [_,_,_,_,tab K ta _ (dput _ _ _),_,_,_,_,_] = _
   rw [dput_app (fun z=>by
    rw [List.map_map] at z
    obtain ⟨c,hc,h2⟩ := List.mem_map.mp z
    exact hkn (List.mem_map.mpr ⟨c,hc,keyP_inj _ _ h2⟩)),List.map_append]
   rfl
  ·refine ⟨fun c hc=>?_,?_,?_,fun c hc=>?_⟩
   ·rw [take_snoc hk]
    rcases List.mem_append.mp hc with z | z
    ·exact List.mem_append_left _ (hcs.sub c z)
    ·rw [List.mem_singleton.mp z]; exact List.mem_append_right _ List.mem_cons_self
   ·show ((cs ++ [(k,rowsL mine theirs order rests dp)]).map (fun c : ComerT=>c.1)).Nodup
    rw [List.map_append]
    refine List.nodup_append.mpr ⟨hcs.nd,by simp,fun x hx y hy z=>?_⟩
    rw [List.map_singleton] at hy
    rw [z,List.mem_singleton.mp hy] at hx
    exact hkn hx
   ·show (cs ++ [(k,rowsL mine theirs order rests dp)]).length <= i + 1
    rw [List.length_append]
    have : cs.length <= i := hcs.len
    show cs.length + 1 <= i + 1
    omega
   ·rcases List.mem_append.mp hc with z | z
    ·exact hcs.rows c z
    ·rw [List.mem_singleton.mp z]
     have := rowsL_ok (mine := mine) (theirs := theirs) (order := order) (rests := rests) (dp := dp) hmo.nd
     have e1 : TB.ownN ⟨W,F,dp,cs ++ [(k,rowsL mine theirs order rests dp)]⟩ k.1 = mine.length := by
      unfold TB.ownN
      rw [hm]
      split <;> rfl
     have e2 : TB.otherN ⟨W,F,dp,cs ++ [(k,rowsL mine theirs order rests dp)]⟩ k.1 = theirs.length := by
      unfold TB.otherN
      rw [ht]
      split <;> rfl
     show RowsOk (TB.ownN _ k.1) (TB.otherN _ k.1) dp _
     rw [e1,e2]
     exact this
 ·rintro ρ' ⟨p',cs,s5,s6,s7,s8,s9,rfl,hcs,hb'⟩
  exact ws_shareTab (i := 4) rfl<|ws_ret<|ew_var rfl ⟨⟨p',rfl,hb'.less (by omega)⟩,q ⟨W,F,dp,cs⟩ (hcs.ok (by show 4 <= 4; decide) hw hf ⟨hd1,hd3⟩) fun c hc=>List.mem_of_mem_take (hcs.sub c hc)⟩
end
end K65
set_option maxHeartbeats 4000000
namespace K65
open PySem PySem.Spec PyProof.Rows L2 DL SrtK
variable [TabL]
def updL {α β : Type} [DecidableEq α] (xs : List (α × β)) (k : α) (v : β) : List (α × β) := xs.map fun p=>if p.1 = k then (k,v) else p
theorem updL_keys {α β : Type} [DecidableEq α] (xs : List (α × β)) (k : α) (v : β) : (updL xs k v).map (·.1) = xs.map (·.1) := by
 unfold updL
 rw [List.map_map]
 refine List.map_congr_left fun p _=>?_
 show (if p.1 = k then (k,v) else p).1 = p.1
 split
 ·next h=>exact h.symm
 ·rfl
theorem updL_mem {α β : Type} [DecidableEq α] {xs : List (α × β)} {k : α} {v : β} {p : α × β} (h : p ∈ updL xs k v) : p = (k,v) \/ p ∈ xs := by
 obtain ⟨q,hq,rfl⟩ := List.mem_map.mp h
 split
 ·exact .inl rfl
 ·exact .inr hq
theorem dput_upd {α β κ : Type} [DecidableEq κ] [DecidableEq α] (g : α -> κ) (hg : ∀ a b,g a = g b -> a = b) (h : β -> D) {xs : List (α × β)} {k : α} (v : β) (hk : k ∈ xs.map (·.1)) :
  dput (xs.map fun p=>(g p.1,h p.2)) (g k) (h v) = (updL xs k v).map fun p=>(g p.1,h p.2) := by
 unfold dput
 have ha : ((xs.map fun p=>(g p.1,h p.2)).any fun kv=>decide (kv.1 = g k)) = true := by
  obtain ⟨p,hp,rfl⟩ := List.mem_map.mp hk
  exact List.any_eq_true.mpr ⟨_,List.mem_map_of_mem (f := fun p=>(g p.1,h p.2)) hp,decide_eq_true rfl⟩
 rw [if_pos ha]
 unfold updL
 rw [List.map_map,List.map_map]
 refine List.map_congr_left fun p _=>?_
 show (if g p.1 = g k then (g p.1,h v) else (g p.1,h p.2)) = (g (if p.1 = k then (k,v) else p).1,h (if p.1 = k then (k,v) else p).2)
 by_cases e : p.1 = k
 ·rw [if_pos e,if_pos (by rw [e]),e]
 ·rw [if_neg e,if_neg fun z=>e (hg _ _ z)]
theorem dputs_app {κ : Type} [DecidableEq κ] (acc ps qs : List (κ × D)) : dputs acc (ps ++ qs) = dputs (dputs acc ps) qs := by
 unfold dputs
 rw [List.foldl_append]
theorem nodup_map {α κ : Type} {g : α -> κ} (hg : ∀ a b,g a = g b -> a = b) {xs : List α} (h : xs.Nodup) : (xs.map g).Nodup := by
 rw [List.nodup_iff_pairwise_ne,List.pairwise_map]
 exact (List.nodup_iff_pairwise_ne.mp h).imp fun h e=>h (hg _ _ e)
theorem dputs_upd {α β κ : Type} [DecidableEq κ] [DecidableEq α] (g : α -> κ) (hg : ∀ a b,g a = g b -> a = b) (h : β -> D) {xs : List (α × β)} {k : α} (v : β) (hk : k ∈ xs.map (·.1)) (hn : (xs.map (·.1)).Nodup) :
  dputs [] ((xs.map fun p=>(g p.1,h p.2)) ++ [(g k,h v)]) = (updL xs k v).map fun p=>(g p.1,h p.2) := by
 rw [dputs_app,dputs_nodup _ [] (by
  rw [List.nil_append,List.map_map]
  have : (xs.map fun p=>g p.1) = (xs.map (·.1)).map g := by rw [List.map_map]; rfl
  show (xs.map fun p=>g p.1).Nodup
  rw [this]
  exact nodup_map hg hn)]
 exact dput_upd g hg h v hk
structure TkOk (cs tk : List Int) : Prop where
 len : tk.length = cs.length
 le : ∀ (i : Nat) (a b : Int),tk[i]? = some a -> cs[i]? = some b -> a <= b
 pos : ∀ a ∈ tk,0 <= a
theorem TkOk.row {cs tk rs : List Int} {m : Nat} (h : TkOk cs tk) (hl : rs.length = m) (hp : ∀ a ∈ rs,0 <= a) : RowOk cs m tk rs := ⟨h.len,h.le,h.pos,hl,hp⟩
theorem RowsOk.upd {own other depth : Nat} {rows : List RowT} (h : RowsOk own other depth rows) {cs tk rs : List Int} (hr : RowOk cs other tk rs) : RowsOk own other depth (updL rows cs (tk,rs)) := by
 refine ⟨by rw [updL_keys]; exact h.keys,fun r hr2=>?_⟩
 rcases updL_mem hr2 with rfl | hm
 ·exact hr
 ·exact h.ok r hm
theorem TB.Ok.upd {t : TB} (o : t.Ok) {k : Str × Str} {rows : List RowT} (hm : k ∈ t.cs.map (·.1)) (h : RowsOk (t.ownN k.1) (t.otherN k.1) t.depth rows) : TB.Ok { t with cs := updL t.cs k rows } := by
 have hk : ∀ c ∈ updL t.cs k rows,c.1 ∈ t.cs.map (·.1) := fun c hc=>by
  rw [<- updL_keys t.cs k rows]
  exact List.mem_map_of_mem (f := fun c : ComerT=>c.1) hc
 refine ⟨o.w1,o.f1,o.wn,o.fn,o.wi,o.fi,o.d1,by show (updL t.cs k rows).length <= 4; unfold updL; rw [List.length_map]; exact o.len,by show ((updL t.cs k rows).map (·.1)).Nodup; rw [updL_keys]; exact o.nd,fun c hc=>?_,fun c hc=>?_,fun c hc=>?_⟩
 ·obtain ⟨c',h1,h2⟩ := List.mem_map.mp (hk c hc)
  rw [<- h2]; exact o.side c' h1
 ·obtain ⟨c',h1,h2⟩ := List.mem_map.mp (hk c hc)
  rw [<- h2]; exact o.name c' h1
 ·rcases updL_mem hc with rfl | hm
  ·exact h
  ·exact o.rows c hm
def one1 (cs : List Int) (spot : Int) (i : Nat) : Int := (if (0 + (i : Int)) = spot then 1 else 0) * (if cs.getD i 0 < 1 then cs.getD i 0 else 1)
theorem one1_ok {cs : List Int} {spot : Int} (h : ∀ x ∈ cs,0 <= x) : TkOk cs ((List.range cs.length).map (one1 cs spot)) := by
 refine ⟨by rw [List.length_map,List.length_range],fun i a b ha hb=>?_,fun a ha=>?_⟩
 ·rw [List.getElem?_map] at ha
  obtain ⟨j,hj,rfl⟩ := Option.map_eq_some_iff.mp ha
  have hjl := (List.getElem?_eq_some_iff.mp hj).1
  rw [List.getElem?_range (by simpa using hjl)] at hj
  cases hj
  have hb0 := h b (List.mem_of_getElem? hb)
  unfold one1
  rw [List.getD_eq_getElem?_getD,hb]
  show (if _ then (1 : Int) else 0) * (if b < 1 then b else 1) <= b
  split <;> split <;> omega
 ·obtain ⟨i,hi,rfl⟩ := List.mem_map.mp ha
  have hc : 0 <= cs.getD i 0 := by
   rw [List.getD_eq_getElem?_getD]
   cases e : cs[i]? with
   | none=>exact Int.le_refl _
   | some b=>exact h b (List.mem_of_getElem? e)
  unfold one1
  split <;> split <;> omega
section
variable {P : Program} {w : World} {K : PySem.W.Frag} {mg : Str -> Option Value} {base : Heap}
def T__law_bent : TVp := fun ds Q=>∃ t : TB,t.Ok /\ InKS t /\ ds = [tblD t] /\ ∀ t' : TB,t'.Ok -> InKS t' -> Q (tblD t')
abbrev N__law_bent : List Str := ["_law_stream_here", "_law_table", "_law_waits", "_law_frees", "_law_depth", "_law_rows", "_law_comer", "_law_mine", "_law_theirs", "_law_counts", "_law_taken", "_law_spot", "_law_rests", "_law_more", "_law_number", "_law_k", "_law_name"]
theorem S__law_bent : FnScope N__law_bent ["_law_stream_here", "_law_table"] (defScope s__law_bent) := ⟨rfl,rfl,rfl,by decide +kernel,rfl,by decide +kernel,by decide +kernel⟩
theorem ok__law_bent (T : TX P K mg) : FnX P w K mg base 3 "_law_bent" ["_law_stream_here", "_law_table"] (spU K (TV 12 T__law_bent)) := by
 obtain ⟨fd,F⟩ := T.F__law_bent
 have G__law_pick := ok__law_pick (P := P) (w := w) (base := base) T
 have G__law_sides := ok__law_sides (P := P) (w := w) (base := base) T
 have G__law_draw := ok__law_draw (P := P) (w := w) (base := base) T
 refine fn_VX (k := 2) F T.g__law_bent (fun _ _ _ _ _ _ us hl=>match us,hl with | [_,_],_=>rfl) S__law_bent (fun ds Qd h=>by first | (obtain ⟨rfl,_⟩ := h; rfl) | (obtain ⟨_,rfl,_⟩ := h; rfl) | (obtain ⟨_,_,rfl,_⟩ := h; rfl) | (obtain ⟨_,_,_,rfl,_⟩ := h; rfl) | (obtain ⟨_,_,_,_,rfl,_⟩ := h; rfl) | (obtain ⟨_,_,_,_,_,rfl,_⟩ := h; rfl) | (obtain ⟨_,_,_,_,_,_,rfl,_⟩ := h; rfl) | (obtain ⟨_,_,_,_,_,_,_,rfl,_⟩ := h; rfl) | (obtain ⟨_,_,_,_,_,_,_,_,rfl,_⟩ := h; rfl) | (obtain ⟨_,_,_,_,_,_,_,_,_,rfl,_⟩ := h; rfl) | (obtain ⟨_,_,_,_,_,_,_,_,_,_,rfl,_⟩ := h; rfl) | (obtain ⟨_,_,_,_,_,_,_,_,_,_,_,rfl,_⟩ := h; rfl)) fun cdv A outer s H W hcd hr tk po=>⟨_,(pss_cons (ps_asg (pv 1) (kgt (K := K) (n := 4) rfl rfl (pgs_cons (pg_name (i := 2) S__law_bent.nd rfl (by first | exact .inl rfl | exact .inr rfl)) (pgs_cons (pg_name (i := 3) S__law_bent.nd rfl (by first | exact .inl rfl | exact .inr rfl)) (pgs_cons (pg_name (i := 4) S__law_bent.nd rfl (by first | exact .inl rfl | exact .inr rfl)) (pgs_cons (pg_name (i := 5) S__law_bent.nd rfl (by first | exact .inl rfl | exact .inr rfl)) pgs_nil))))))
   (pss_cons (ps_if (pt_cmpR (SG.keqDT (K := K) rfl hr.units) (pv 5) pe_dnewT (nomark _)) (pss_one (ps_ret (pv 1))) pss_nil)
   (pss_cons (ps_set (i := 6) S__law_bent.nd rfl (by first | exact .inl rfl | exact .inr rfl) (pe_callX G__law_pick tk (fun _ _ _ _ h=>h) (hr.mono (by first | decide | omega)) (pa_cons (pv 0) (pa_cons (pe_callB (SrtK.cr_sortKD rfl) (by rfl) T.n_sorted (by decide +kernel) (pa_cons (pv 5) pa_nil)) pa_nil))))
   (pss_cons (ps_asg (pe_callF G__law_sides (hr.mono (by first | decide | omega)) (pa_cons (pv 1) (pa_cons (pv 6) pa_nil))) (kgt (K := K) (n := 2) rfl rfl (pgs_cons (pg_name (i := 7) S__law_bent.nd rfl (by first | exact .inl rfl | exact .inr rfl)) (pgs_cons (pg_name (i := 8) S__law_bent.nd rfl (by first | exact .inl rfl | exact .inr rfl)) pgs_nil))))
   (pss_cons (ps_set (i := 9) S__law_bent.nd rfl (by first | exact .inl rfl | exact .inr rfl) (pe_callX G__law_pick tk (fun _ _ _ _ h=>h) (hr.mono (by first | decide | omega)) (pa_cons (pv 0) (pa_cons (pe_callB (SrtK.cr_sortKD rfl) (by rfl) T.n_sorted (by decide +kernel) (pa_cons (pe_dget (hu_of hr) (pv 5) (pv 6) (fun _ _=>rfl)) pa_nil)) pa_nil))))
   (pss_cons (ps_set (i := 10) S__law_bent.nd rfl (by first | exact .inl rfl | exact .inr rfl) (pe_callTy (ktuple (K := K) rfl) (by rfl) T.n_tuple (by decide +kernel) (pa_cons (pe_lc (own := [("_law_number",14)]) rfl S__law_bent.nd (kwU (K := K) rfl (pv 9)) (blkOk_by (own := [("_law_number",14)]) (N := N__law_bent) (sc := defScope s__law_bent) (by decide +kernel)) (fun _ _ _ _ _=>(pg_name (i := 14) S__law_bent.nd rfl (by first | exact .inl rfl | exact .inr rfl))) (fun _ _ _ _ _=>pts_nil) (fun _ _ _ _ _=>(pe_callB (kminL rfl (K := K) rfl) (by rfl) T.n_min (by decide +kernel) (pa_cons (pe_lst (pa_cons (pv 14) (pa_cons (pe_callX G__law_draw takesN (E := E0) (fun _ _ _ _ h=>h) (hr.mono (by first | decide | omega)) (pa_cons (pv 0) (pa_cons pe_int pa_nil))) pa_nil))) pa_nil)))) pa_nil)))
   (pss_cons (ps_if (pt_cmpR op_eq (pe_callX G__law_draw tk (fun _ _ _ _ h=>h) (hr.mono (by first | decide | omega)) (pa_cons (pv 0) (pa_cons pe_int pa_nil))) pe_int (nomark _)) (pss_cons (ps_set (i := 11) S__law_bent.nd rfl (by first | exact .inl rfl | exact .inr rfl) (pe_callX G__law_draw tk (fun _ _ _ _ h=>h) (hr.mono (by first | decide | omega)) (pa_cons (pv 0) (pa_cons (pe_callB (klen (K := K) rfl) (by rfl) T.n_len (by decide +kernel) (pa_cons (pv 7) pa_nil)) pa_nil))))
   (pss_one (ps_set (i := 10) S__law_bent.nd rfl (by first | exact .inl rfl | exact .inr rfl) (pe_callTy (ktuple (K := K) rfl) (by rfl) T.n_tuple (by decide +kernel) (pa_cons (pe_lc (own := [("_law_k",15)]) rfl S__law_bent.nd (pi_range1 (by rfl) T.n_range (pa_cons (pe_callB (klen (K := K) rfl) (by rfl) T.n_len (by decide +kernel) (pa_cons (pv 7) pa_nil)) pa_nil)) (blkOk_by (own := [("_law_k",15)]) (N := N__law_bent) (sc := defScope s__law_bent) (by decide +kernel)) (fun _ _ _ _ _=>(pg_name (i := 15) S__law_bent.nd rfl (by first | exact .inl rfl | exact .inr rfl))) (fun _ _ _ _ _=>pts_nil) (fun _ _ _ _ _=>(pe_op op_mul (pe_callTy call_int1 (by rfl) T.n_int (by decide +kernel) (pa_cons (pe_cmpR op_eq (pv 15) (pv 11) (nomark _)) pa_nil)) (pe_callB (kminL rfl (K := K) rfl) (by rfl) T.n_min (by decide +kernel) (pa_cons (pe_lst (pa_cons pe_int (pa_cons (pe_ix (kix (K := K) rfl) (pv 9) (pv 15) (fun _ _=>rfl)) pa_nil))) pa_nil))))) pa_nil))))) pss_nil)
   (pss_cons (ps_set (i := 12) S__law_bent.nd rfl (by first | exact .inl rfl | exact .inr rfl) (pe_callTy (ktuple (K := K) rfl) (by rfl) T.n_tuple (by decide +kernel) (pa_cons (pe_lc (own := [("_law_name",16)]) rfl S__law_bent.nd (kwU (K := K) rfl (pv 8)) (blkOk_by (own := [("_law_name",16)]) (N := N__law_bent) (sc := defScope s__law_bent) (by decide +kernel)) (fun _ _ _ _ _=>(pg_name (i := 16) S__law_bent.nd rfl (by first | exact .inl rfl | exact .inr rfl))) (fun _ _ _ _ _=>pts_nil) (fun _ _ _ _ _=>(pe_callX G__law_pick takesN (E := E0) (fun _ _ _ _ h=>h) (hr.mono (by first | decide | omega)) (pa_cons (pv 0) (pa_cons (pe_lst (pa_cons pe_int (pa_cons pe_int (pa_cons pe_int (pa_cons pe_int (pa_cons pe_int (pa_cons pe_int pa_nil))))))) pa_nil))))) pa_nil)))
   (pss_cons (ps_set (i := 13) S__law_bent.nd rfl (by first | exact .inl rfl | exact .inr rfl) (pe_callTy (kdictT (K := K) rfl hr.units rfl) (by rfl) T.n_dict (by decide +kernel) (pa_cons (pe_op op_cat (LowX.pe_listItT rfl (pe_dget (hu_of hr) (pv 5) (pv 6) (fun _ _=>rfl)) (by rfl) T.n_list) (pe_lst (pa_cons (pe_tup (pa_cons (pv 9) (pa_cons (pe_tup (pa_cons (pv 10) (pa_cons (pv 12) pa_nil))) pa_nil))) pa_nil))) pa_nil)))
   (pss_one (ps_ret (pe_tup (pa_cons (pv 2) (pa_cons (pv 3) (pa_cons (pv 4) (pa_cons (pe_callTy (kdictT (K := K) rfl hr.units rfl) (by rfl) T.n_dict (by decide +kernel) (pa_cons (pe_op op_cat (LowX.pe_listItT rfl (pv 5) (by rfl) T.n_list) (pe_lst (pa_cons (pe_tup (pa_cons (pv 6) (pa_cons (pv 13) pa_nil))) pa_nil))) pa_nil)) pa_nil)))))))))))))))),fun a p n ds Qd hb h=>?_⟩
 obtain ⟨t,o,hin,rfl,q⟩ := h
 refine ws_seq<|ws_asg<|ew_var rfl<|gw_tup rfl<|gws_cons<|gw_name<|gws_cons<|gw_name<|gws_cons<|gw_name<|gws_cons<|gw_name<|gws_nil ?_
 show WS K _ [.own a (stD p),.sh (tblD t),.sh (.lst (strsD t.waits)),.sh (.lst (strsD t.frees)),.sh (.int (t.depth : Nat)),.sh (.dt (t.cs.map pairP)),.un,.un,.un,.un,.un,.un,.un,.un,.un,.un,.un] _
 by_cases hc0 : t.cs = []
 ·refine ws_seq<|ws_if<|et_test<|ew_op<|ew_var rfl<|ew_new<|en_dnewT<|op2_eqDT0 (neg := false) ⟨_,rfl,?_⟩
  rw [hc0]
  exact iteT<|ws_ret<|ew_var rfl ⟨⟨p,rfl,hb.less (by omega)⟩,q t o hin⟩
 refine ws_seq<|ws_ifn (C := True) (et_test<|ew_op<|ew_var rfl<|ew_new<|en_dnewT<|op2_eqDT0 (neg := false) ⟨_,rfl,?_⟩) fun _=>?_
 ·have e : (t.cs.map pairP).isEmpty = false := by
   cases hh : t.cs with
   | nil=>exact absurd hh hc0
   | cons _ _=>rfl
  show if (t.cs.map pairP).isEmpty = true then _ else _
  rw [e]
  exact iteF ⟨rfl,trivial⟩
 have hks : ((t.cs.map pairP).map (·.1)) = t.cs.map fun c=>keyP c.1 := by rw [List.map_map]; rfl
 have hcl : 0 < t.cs.length := List.length_pos_iff.mpr hc0
 have hc4 := o.len
 refine ws_seq<|ws_asg<|ew_pick (n + 11) rfl<|ea_cons<|ew_new<|en_cb<|ea_cons<|ew_var rfl<|ea_nil<|opn_sortKD (b := false) (sr := [false]) (fun k hk=>?_)<|ea_nil ⟨p,rfl,hb,_,(srtK ((t.cs.map pairP).map (·.1))).map fun k=>D.tup (k.map kD),rfl,rfl,?_,?_,fun d hd p1 hb1=>?_⟩
 ·rw [hks] at hk
  obtain ⟨c,_,rfl⟩ := List.mem_map.mp hk
  rfl
 ·rw [List.length_map,srtK_len,hks,List.length_map]; exact hcl
 ·rw [List.length_map,srtK_len,hks,List.length_map]; omega
 obtain ⟨k,hk,rfl⟩ := List.mem_map.mp hd
 have hk := srtK_mem.mp hk
 rw [hks] at hk
 obtain ⟨c,hc,rfl⟩ := List.mem_map.mp hk
 have hro := o.rows c hc
 have hkr := hro.keys
 have h3 := o.own3 c.1.1
 have hg : dget (t.cs.map pairP) (keyP c.1) = some (rowsD c.2) := by rw [dget_comers,mem_rowsAt o (k := c.1) (rows := c.2) hc]; rfl
 obtain ⟨mine,hm⟩ : ∃ mine,mine = (if c.1.1 = ("person" : Str) then t.frees else t.waits) := ⟨_,rfl⟩
 obtain ⟨theirs,ht⟩ : ∃ theirs,theirs = (if c.1.1 = ("person" : Str) then t.waits else t.frees) := ⟨_,rfl⟩
 have hml : mine.length = t.ownN c.1.1 := by
  unfold TB.ownN
  rw [hm]
  split <;> rfl
 have htl : theirs.length = t.otherN c.1.1 := by
  unfold TB.otherN
  rw [ht]
  split <;> rfl
 have hm1 : 1 <= mine.length := by
  rw [hm]
  split
  ·exact o.f1.1
  ·exact o.w1.1
 have e : (if c.1.1 = ("person" : Str) then D.tup [.lst (strsD t.frees),.lst (strsD t.waits)] else .tup [.lst (strsD t.waits),.lst (strsD t.frees)]) = .tup [.lst (strsD mine),.lst (strsD theirs)] := by
  rw [hm,ht]
  split <;> rfl
 refine gw_name ?_
 show WS K _ [.own a (stD p1),.sh (tblD t),.sh (.lst (strsD t.waits)),.sh (.lst (strsD t.frees)),.sh (.int (t.depth : Nat)),.sh (.dt (t.cs.map pairP)),.sh (comerD c.1),.un,.un,.un,.un,.un,.un,.un,.un,.un,.un] _
 refine ws_seq<|ws_asg<|ew_callP<|ea_cons<|ew_var rfl<|ea_cons<|ew_var rfl<|ea_nil ⟨_,_,_,_,_,c.1.1,_,rfl,rfl,?_⟩
 rw [e]
 refine gw_tup rfl<|gws_cons<|gw_name<|gws_cons<|gw_name<|gws_nil ?_
 show WS K _ [.own a (stD p1),.sh (tblD t),.sh (.lst (strsD t.waits)),.sh (.lst (strsD t.frees)),.sh (.int (t.depth : Nat)),.sh (.dt (t.cs.map pairP)),.sh (comerD c.1),.sh (.lst (strsD mine)),.sh (.lst (strsD theirs)),.un,.un,.un,.un,.un,.un,.un,.un] _
 have hrn : (c.2.map (·.1)).Nodup := by rw [hkr]; exact allC_nodup _ _
 have hkc : ((c.2.map pairC).map (·.1)) = c.2.map fun r=>keyC r.1 := by rw [List.map_map]; rfl
 have hl64 : c.2.length <= 64 := by
  have : c.2.length = (allC t.depth (t.ownN c.1.1)).length := by rw [<- hkr,List.length_map]
  rw [this,allC_len]
  exact Nat.le_trans (Nat.pow_le_pow_right (by omega) h3.1) (Nat.pow_le_pow_left (by have := o.d1; omega : t.depth + 1 <= 4) 3)
 have hl1 : 0 < c.2.length := by
  have : c.2.length = (allC t.depth (t.ownN c.1.1)).length := by rw [<- hkr,List.length_map]
  rw [this,allC_len]
  exact Nat.pow_pos (by omega)
 have hrow : ∀ r ∈ c.2,r.1.length = t.ownN c.1.1 /\ ∀ x ∈ r.1,0 <= x /\ x <= (t.depth : Int) := fun r h=>allC_row _ (hkr ▸ List.mem_map_of_mem (f := fun r : RowT=>r.1) h)
 refine ws_seq<|ws_asg<|ew_pick (n + 10) rfl<|ea_cons<|ew_new<|en_cb<|ea_cons<|ew_dgetkT<|ew_var rfl<|ew_var rfl ⟨keyP c.1,_,rowsD c.2,rfl,rfl,hg,ea_nil<|opn_sortKD (b := true) (sr := List.replicate (mine.length - 1) true) (fun k hk=>?_)<|ea_nil ⟨p1,rfl,hb1,_,(srtK ((c.2.map pairC).map (·.1))).map fun k=>D.tup (k.map kD),rfl,rfl,?_,?_,fun d hd p2 hb2=>?_⟩⟩
 ·rw [hkc] at hk
  obtain ⟨r,hr,rfl⟩ := List.mem_map.mp hk
  have hl := (hrow r hr).1
  have : ∀ xs : List Int,shp (keyC xs) = List.replicate xs.length true := fun xs=>by
   induction xs with
   | nil=>rfl
   | cons x xs ih =>
    show true :: shp (keyC xs) = _
    rw [ih]; rfl
  rw [this,hl,<- hml]
  have : mine.length = (mine.length - 1) + 1 := by omega
  rw [this]; rfl
 ·rw [List.length_map,srtK_len,hkc,List.length_map]; exact hl1
 ·rw [List.length_map,srtK_len,hkc,List.length_map]; omega
 obtain ⟨k,hk,rfl⟩ := List.mem_map.mp hd
 have hk := srtK_mem.mp hk
 rw [hkc] at hk
 obtain ⟨r,hr,rfl⟩ := List.mem_map.mp hk
 rw [keyC_kD]
 obtain ⟨hrl,hrb⟩ := hrow r hr
 have hmem : r.1 ∈ c.2.map (·.1) := List.mem_map_of_mem (f := fun r : RowT=>r.1) hr
 generalize r.1 = cs at *
 refine gw_name ?_
 show WS K _ [.own a (stD p2),.sh (tblD t),.sh (.lst (strsD t.waits)),.sh (.lst (strsD t.frees)),.sh (.int (t.depth : Nat)),.sh (.dt (t.cs.map pairP)),.sh (comerD c.1),.sh (.lst (strsD mine)),.sh (.lst (strsD theirs)),.sh (intsT cs),.un,.un,.un,.un,.un,.un,.un] _
 refine ws_seq<|ws_asg<|ew_cb<|ea_cons<|ew_new<|en_lcE<|ei_seq (intsT cs) rfl<|ew_var rfl ⟨rfl,by rw [List.length_map]; omega,fun i acc ρ=>∃ (p' : P3) (xs : List Int),ρ = [.own a (stD p'),.sh (tblD t),.sh (.lst (strsD t.waits)),.sh (.lst (strsD t.frees)),.sh (.int (t.depth : Nat)),.sh (.dt (t.cs.map pairP)),.sh (comerD c.1),.sh (.lst (strsD mine)),.sh (.lst (strsD theirs)),.sh (intsT cs),.un,.un,.un,.un,.un,.un,.un] /\ acc = xs.map D.int /\ TkOk (cs.take i) xs /\ Bud (n + 7 + (3 - i)) p',⟨p2,[],rfl,rfl,⟨rfl,fun _ _ _ z=>(nomatch z),fun _ z=>(nomatch z)⟩,hb2.less (by omega)⟩,?_,?_⟩
 ·rintro i d acc ρ0 hd ⟨p',xs,e0,rfl,hi,hb'⟩
  rw [List.getElem?_map] at hd
  obtain ⟨x,hx,rfl⟩ := Option.map_eq_some_iff.mp hd
  have hlt := (List.getElem?_eq_some_iff.mp hx).1
  rw [e0]
  refine gv_name (by decide)<|et_yes<|iteT<|ew_cb<|ea_cons<|ew_new<|en_lst<|ea_cons<|ew_var rfl<|ea_cons<|ew_callV (n + 7 + (3 - (i + 1))) rfl<|ea_cons<|ew_int<|ea_nil ⟨p',rfl,hb'.less (by omega),3,rfl,by decide,by decide,fun r hr0 hr1 p2 hb2=>ea_nil ⟨by show 2 <= 100000; decide,ea_nil<|opa_minL2 ⟨p2,xs ++ [if r < x then r else x],rfl,by rw [List.map_append]; rfl,?_,hb2⟩⟩⟩
  have hx0 := hrb x (List.mem_of_getElem? hx)
  have hil := hi.len
  rw [List.length_take] at hil
  rw [take_snoc hx]
  refine ⟨by rw [List.length_append,List.length_append,hi.len]; rfl,fun j u v hu hv=>?_,fun u hu=>?_⟩
  ·by_cases hj : j < xs.length
   ·rw [List.getElem?_append_left hj] at hu
    rw [List.getElem?_append_left (by rw [List.length_take]; omega)] at hv
    exact hi.le j u v hu hv
   ·rw [List.getElem?_append_right (by omega)] at hu
    rw [List.getElem?_append_right (by rw [List.length_take]; omega)] at hv
    have hj0 : j - xs.length = 0 := by
     have := (List.getElem?_eq_some_iff.mp hu).1
     simp at this
     omega
    have hj1 : j - (cs.take i).length = 0 := by rw [List.length_take]; omega
    rw [hj0] at hu
    rw [hj1] at hv
    cases hu
    cases hv
    split <;> omega
  ·rcases List.mem_append.mp hu with z | z
   ·exact hi.pos u z
   ·rw [List.mem_singleton.mp z]
    split <;> omega
 rintro acc ρ0 ⟨p',tk,e0,rfl,hi,hb'⟩
 rw [List.length_map,List.take_length] at hi
 rw [e0]
 refine ea_nil<|opa_tuple rfl<|gw_name ?_
 show WS K _ [.own a (stD p'),.sh (tblD t),.sh (.lst (strsD t.waits)),.sh (.lst (strsD t.frees)),.sh (.int (t.depth : Nat)),.sh (.dt (t.cs.map pairP)),.sh (comerD c.1),.sh (.lst (strsD mine)),.sh (.lst (strsD theirs)),.sh (intsT cs),.sh (intsT tk),.un,.un,.un,.un,.un,.un] _
 refine ws_mid (fun ρ'=>∃ (p' : P3) (tk : List Int) (s11 : Sl),ρ' = [.own a (stD p'),.sh (tblD t),.sh (.lst (strsD t.waits)),.sh (.lst (strsD t.frees)),.sh (.int (t.depth : Nat)),.sh (.dt (t.cs.map pairP)),.sh (comerD c.1),.sh (.lst (strsD mine)),.sh (.lst (strsD theirs)),.sh (intsT cs),.sh (intsT tk),s11,.un,.un,.un,.un,.un] /\ TkOk cs tk /\ Bud (n + 3) p') ?_ ?_
 ·refine ws_if<|et_test<|ew_op<|ew_callV (n + 6) rfl<|ea_cons<|ew_int<|ea_nil ⟨p',rfl,hb'.less (by omega),2,rfl,by decide,by decide,fun r5 _ _ p5 hb5=>ew_int<|op2_eq_int ⟨_,rfl,ite_b (fun _=>?_) (fun _=>ws_next ⟨p5,tk,_,rfl,hi,hb5.less (by omega)⟩)⟩⟩
  show WS K _ [.own a (stD p5),.sh (tblD t),.sh (.lst (strsD t.waits)),.sh (.lst (strsD t.frees)),.sh (.int (t.depth : Nat)),.sh (.dt (t.cs.map pairP)),.sh (comerD c.1),.sh (.lst (strsD mine)),.sh (.lst (strsD theirs)),.sh (intsT cs),.sh (intsT tk),.un,.un,.un,.un,.un,.un] _
  refine ws_seq<|ws_asg<|ew_callV (n + 5) rfl<|ea_cons<|ew_cb<|ea_cons<|ew_var rfl<|ea_nil<|opa_len rfl<|ea_nil ⟨p5,rfl,hb5.less (by omega),_,rfl,by rw [strsD_len]; omega,by rw [strsD_len]; omega,fun spot _ _ p6 hb6=>gw_name ?_⟩
  show WS K _ [.own a (stD p6),.sh (tblD t),.sh (.lst (strsD t.waits)),.sh (.lst (strsD t.frees)),.sh (.int (t.depth : Nat)),.sh (.dt (t.cs.map pairP)),.sh (comerD c.1),.sh (.lst (strsD mine)),.sh (.lst (strsD theirs)),.sh (intsT cs),.sh (intsT tk),.sh (.int spot),.un,.un,.un,.un,.un] _
  refine ws_asg<|ew_cb<|ea_cons<|ew_new<|en_lcG (fun i : Nat=>.int (one1 cs spot i))<|ei_range1<|ea_cons<|ew_cb<|ea_cons<|ew_var rfl<|ea_nil<|opa_len rfl<|ea_nil ⟨_,rfl,by omega,by rw [strsD_len]; omega,rfl,by simp [strsD_len]; omega,fun i d hd=>?_,ea_nil<|opa_tuple rfl<|gw_name ⟨p6,(List.range cs.length).map (one1 cs spot),.sh (.int spot),?_,one1_ok fun x hx=>(hrb x hx).1,hb6.less (by omega)⟩⟩
  ·rw [List.getElem?_map] at hd
   obtain ⟨j,hj,rfl⟩ := Option.map_eq_some_iff.mp hd
   have hjl := (List.getElem?_eq_some_iff.mp hj).1
   rw [List.getElem?_range (by simpa using hjl)] at hj
   cases hj
   rw [List.length_range,strsD_len,Int.toNat_natCast] at hjl
   have hil : i < cs.length := by rw [hrl]; omega
   have hat : (cs.map D.int)[i]? = some (.int (cs.getD i 0)) := by
    rw [List.getElem?_map,List.getElem?_eq_getElem hil,List.getD_eq_getElem?_getD,List.getElem?_eq_getElem hil]; rfl
   refine gv_name (by decide)<|ew_op<|ew_cb<|ea_cons<|ew_op<|ew_var rfl<|ew_var rfl<|op2_eq_int<|ea_nil<|opa_intB<|ew_cb<|ea_cons<|ew_new<|en_lst<|ea_cons<|ew_int<|ea_cons<|ew_op<|ew_var rfl<|ew_var rfl<|op2_ix (ds := cs.map D.int) rfl (by rw [Int.zero_add]; exact atI_nat hat)<|ea_nil ⟨by show 2 <= 100000; decide,ea_nil<|opa_minL2<|op2_intC ?_ ⟨rfl,?_⟩⟩
   ·have hc1 : (if cs.getD i 0 < 1 then cs.getD i 0 else 1) = 0 \/ (if cs.getD i 0 < 1 then cs.getD i 0 else 1) = 1 := by
     have : 0 <= cs.getD i 0 := by
      rw [List.getD_eq_getElem?_getD,List.getElem?_eq_getElem hil]
      exact (hrb _ (List.getElem_mem hil)).1
     split <;> omega
    rcases hc1 with e | e <;> rw [e] <;> split <;> exact .inl ⟨by decide,by decide⟩
   ·unfold one1
    by_cases e : (0 + (i : Int)) = spot
    ·rw [if_pos e,decide_eq_true e]; rfl
    ·rw [if_neg e,decide_eq_false e]; rfl
  ·have e : (List.range ((List.range ((strsD mine).length : Int).toNat).map fun (i : Nat)=>D.int (0 + (i : Int))).length).map (fun i : Nat=>D.int (one1 cs spot i)) = ((List.range cs.length).map (one1 cs spot)).map D.int := by
    rw [List.length_map,List.length_range,strsD_len,Int.toNat_natCast,hml,<- hrl,List.map_map]; rfl
   rw [e]; rfl
 rintro ρ' ⟨p7,tk,s11,rfl,htk,hb7⟩
 have h3o := h3.2
 refine ws_seq<|ws_asg<|ew_cb<|ea_cons<|ew_new<|en_lcE<|ei_seq (.lst (strsD theirs)) rfl<|ew_var rfl ⟨rfl,by rw [strsD_len]; omega,fun i acc ρ=>∃ (p' : P3) (xs : List Int),ρ = [.own a (stD p'),.sh (tblD t),.sh (.lst (strsD t.waits)),.sh (.lst (strsD t.frees)),.sh (.int (t.depth : Nat)),.sh (.dt (t.cs.map pairP)),.sh (comerD c.1),.sh (.lst (strsD mine)),.sh (.lst (strsD theirs)),.sh (intsT cs),.sh (intsT tk),s11,.un,.un,.un,.un,.un] /\ acc = xs.map D.int /\ xs.length = i /\ (∀ x ∈ xs,0 <= x) /\ Bud (n + (3 - i)) p',⟨p7,[],rfl,rfl,rfl,fun _ z=>(nomatch z),hb7.less (by omega)⟩,?_,?_⟩
 ·rintro i d acc ρ0 hd ⟨p',xs,e0,rfl,hi,hx,hb'⟩
  have hlt := (List.getElem?_eq_some_iff.mp hd).1
  rw [strsD_len] at hlt
  rw [e0]
  refine gv_name (by decide)<|et_yes<|iteT<|ew_pick (n + (3 - (i + 1))) rfl<|ea_cons<|ew_new<|en_lst<|ea_cons<|ew_int<|ea_cons<|ew_int<|ea_cons<|ew_int<|ea_cons<|ew_int<|ea_cons<|ew_int<|ea_cons<|ew_int<|ea_nil ⟨by show 6 <= 100000; decide,ea_nil ⟨p',rfl,hb'.less (by omega),_,[0,0,0,1,1,2].map D.int,rfl,rfl,by decide,by decide,fun d hd p2 hb2=>?_⟩⟩
  obtain ⟨x,hx2,rfl⟩ := List.mem_map.mp hd
  have hx0 : 0 <= x := (by decide : ∀ x ∈ ([0,0,0,1,1,2] : List Int),0 <= x) x hx2
  refine ⟨p2,xs ++ [x],rfl,by rw [List.map_append]; rfl,by rw [List.length_append,hi]; rfl,fun y hy=>?_,hb2⟩
  rcases List.mem_append.mp hy with z | z
  ·exact hx y z
  ·rw [List.mem_singleton.mp z]; exact hx0
 rintro acc ρ0 ⟨p8,rs,e0,rfl,hrsl,hrs,hb8⟩
 rw [strsD_len] at hrsl
 rw [e0]
 refine ea_nil<|opa_tuple rfl<|gw_name ?_
 show WS K _ [.own a (stD p8),.sh (tblD t),.sh (.lst (strsD t.waits)),.sh (.lst (strsD t.frees)),.sh (.int (t.depth : Nat)),.sh (.dt (t.cs.map pairP)),.sh (comerD c.1),.sh (.lst (strsD mine)),.sh (.lst (strsD theirs)),.sh (intsT cs),.sh (intsT tk),s11,.sh (intsT rs),.un,.un,.un,.un] _
 have hrow2 : RowOk cs (t.otherN c.1.1) tk rs := htk.row (by rw [hrsl,htl]) hrs
 have e1 : (c.2.map pairC).map (fun p : List Key × D=>D.tup [.tup (p.1.map kD),p.2]) ++ [.tup [intsT cs,.tup [intsT tk,intsT rs]]] = (c.2.map pairC ++ [(keyC cs,rowD tk rs)]).map (fun p : List Key × D=>D.tup [.tup (p.1.map kD),p.2]) := by
  rw [List.map_append,List.map_singleton,keyC_kD]; rfl
 have e2 : dputs [] (c.2.map pairC ++ [(keyC cs,rowD tk rs)]) = (updL c.2 cs (tk,rs)).map pairC := dputs_upd keyC keyC_inj (fun r : List Int × List Int=>rowD r.1 r.2) (xs := c.2) (tk,rs) hmem hrn
 refine ws_seq<|ws_asg<|ew_new<|en_cb<|ea_cons<|ew_new<|en_cat<|ew_new<|en_listItT<|ew_dgetkT<|ew_var rfl<|ew_var rfl ⟨keyP c.1,_,rowsD c.2,rfl,rfl,hg,_,rfl,ew_new<|en_lst<|ea_cons<|ew_tup<|ea_cons<|ew_var rfl<|ea_cons<|ew_tup<|ea_cons<|ew_var rfl<|ea_cons<|ew_var rfl<|ea_nil ⟨by show 2 <= 100000; decide,ea_nil ⟨by show 2 <= 100000; decide,ea_nil ⟨by show 1 <= 100000; decide,_,_,rfl,rfl,?_,?_⟩⟩⟩⟩
 ·rw [List.length_map,List.length_map]
  show c.2.length + 1 <= 90000
  omega
 rw [e1]
 refine ea_nil<|opn_dictT ?_<|gw_name ?_
 ·rw [List.length_append,List.length_map]
  show c.2.length + 1 <= 90000
  omega
 rw [e2]
 show WS K _ [.own a (stD p8),.sh (tblD t),.sh (.lst (strsD t.waits)),.sh (.lst (strsD t.frees)),.sh (.int (t.depth : Nat)),.sh (.dt (t.cs.map pairP)),.sh (comerD c.1),.sh (.lst (strsD mine)),.sh (.lst (strsD theirs)),.sh (intsT cs),.sh (intsT tk),s11,.sh (intsT rs),.sh (rowsD (updL c.2 cs (tk,rs))),.un,.un,.un] _
 have hcm : c.1 ∈ t.cs.map (·.1) := List.mem_map_of_mem (f := fun c : ComerT=>c.1) hc
 have e3 : (t.cs.map pairP).map (fun p : List Key × D=>D.tup [.tup (p.1.map kD),p.2]) ++ [.tup [comerD c.1,rowsD (updL c.2 cs (tk,rs))]] = (t.cs.map pairP ++ [(keyP c.1,rowsD (updL c.2 cs (tk,rs)))]).map (fun p : List Key × D=>D.tup [.tup (p.1.map kD),p.2]) := by
  rw [List.map_append,List.map_singleton]; rfl
 have e4 : dputs [] (t.cs.map pairP ++ [(keyP c.1,rowsD (updL c.2 cs (tk,rs)))]) = (updL t.cs c.1 (updL c.2 cs (tk,rs))).map pairP := dputs_upd keyP keyP_inj rowsD (xs := t.cs) (updL c.2 cs (tk,rs)) hcm o.nd
 refine ws_ret<|ew_tup<|ea_cons<|ew_var rfl<|ea_cons<|ew_var rfl<|ea_cons<|ew_var rfl<|ea_cons<|ew_new<|en_cb<|ea_cons<|ew_new<|en_cat<|ew_new<|en_listItT<|ew_var rfl ⟨_,rfl,ew_new<|en_lst<|ea_cons<|ew_tup<|ea_cons<|ew_var rfl<|ea_cons<|ew_var rfl<|ea_nil ⟨by show 2 <= 100000; decide,ea_nil ⟨by show 1 <= 100000; decide,_,_,rfl,rfl,?_,?_⟩⟩⟩
 ·rw [List.length_map,List.length_map]
  show t.cs.length + 1 <= 90000
  omega
 rw [e3]
 refine ea_nil<|opn_dictT ?_<|ea_nil ⟨by show 4 <= 100000; decide,?_⟩
 ·rw [List.length_append,List.length_map]
  show t.cs.length + 1 <= 90000
  omega
 rw [e4]
 exact ⟨⟨p8,rfl,hb8.less (by omega)⟩,q { t with cs := updL t.cs c.1 (updL c.2 cs (tk,rs)) } (o.upd hcm (hro.upd hrow2)) fun c' hc'=>by
  rcases updL_mem hc' with rfl | hm
  ·exact hin c hc
  ·exact hin c' hm⟩
end
end K65
namespace K65
open PySem PySem.Spec PyProof.Rows L2 DL SrtK
variable [TabL]
theorem zer_map : ∀ xs : List Str,(strsD xs).map (fun _=>D.int 0) = (zer xs.length).map D.int
 | []=>rfl
 | x :: xs=>by
  show D.int 0 :: (strsD xs).map (fun _=>D.int 0) = D.int 0 :: (zer xs.length).map D.int
  rw [zer_map xs]
def oneS (xs : List Str) (s : Str) : List Int := xs.map fun x=>if x = s then 1 else 0
theorem oneS_none : ∀ {xs : List Str} {s : Str} {ys : List Int},s ∉ xs -> xs.length = ys.length -> zAdd ys (oneS xs s) = ys /\ zSub ys (oneS xs s) = ys
 | [],_,[],_,_=>⟨rfl,rfl⟩
 | x :: xs,s,y :: ys,h,hl=>by
  obtain ⟨h1,h2⟩ := oneS_none (xs := xs) (s := s) (ys := ys) (fun z=>h (List.mem_cons_of_mem _ z)) (by simpa using hl)
  have hne : x ≠ s := fun e=>h (e ▸ List.mem_cons_self)
  constructor
  ·show (y + if x = s then 1 else 0) :: zAdd ys (oneS xs s) = _
   rw [if_neg hne,h1,Int.add_zero]
  ·show (y - if x = s then 1 else 0) :: zSub ys (oneS xs s) = _
   rw [if_neg hne,h2,Int.sub_zero]
theorem oneS_inc : ∀ {xs : List Str} {s : Str} {i : Nat} {ys : List Int},xs.Nodup -> xs[i]? = some s -> xs.length = ys.length -> zAdd ys (oneS xs s) = inc ys i 1 /\ zSub ys (oneS xs s) = inc ys i (-1)
 | x :: xs,s,0,y :: ys,hn,h,hl=>by
  cases h
  obtain ⟨h1,h2⟩ := oneS_none (ys := ys) (List.nodup_cons.mp hn).1 (by simpa using hl)
  constructor
  ·show (y + if x = x then 1 else 0) :: zAdd ys (oneS xs x) = (y + 1) :: ys
   rw [if_pos rfl,h1]
  ·show (y - if x = x then 1 else 0) :: zSub ys (oneS xs x) = (y + -1) :: ys
   rw [if_pos rfl,h2]; rfl
 | x :: xs,s,i + 1,y :: ys,hn,h,hl=>by
  rw [List.getElem?_cons_succ] at h
  obtain ⟨h1,h2⟩ := oneS_inc (ys := ys) (List.nodup_cons.mp hn).2 h (by simpa using hl)
  have hne : x ≠ s := fun e=>(List.nodup_cons.mp hn).1 (e ▸ List.mem_of_getElem? h)
  constructor
  ·show (y + if x = s then 1 else 0) :: zAdd ys (oneS xs s) = y :: inc ys i 1
   rw [if_neg hne,h1,Int.add_zero]
  ·show (y - if x = s then 1 else 0) :: zSub ys (oneS xs s) = y :: inc ys i (-1)
   rw [if_neg hne,h2,Int.sub_zero]
def fOne (s : Str) : D -> D
 | .str x=>.int (if x = s then 1 else 0)
 | _=>.non
theorem fOne_map (s : Str) (xs : List Str) : (strsD xs).map (fOne s) = (oneS xs s).map D.int := by
 unfold strsD oneS
 rw [List.map_map,List.map_map]; rfl
section
variable {P : Program} {w : World} {K : PySem.W.Frag} {mg : Str -> Option Value} {base : Heap}
def T_none_of : List D -> (D -> Prop) -> Prop := fun ds Q=>∃ xs d,ds = [d] /\ d.seq = some (strsD xs) /\ xs.length <= 1000 /\ Q (intsT (zer xs.length))
abbrev N_none_of : List Str := ["sorts", "one"]
theorem S_none_of : FnScope N_none_of ["sorts"] (defScope s_none_of) := ⟨rfl,rfl,rfl,by decide +kernel,rfl,by decide +kernel,by decide +kernel⟩
theorem ok_none_of (T : TX P K mg) : FnB P w K mg base 1 "none_of" ["sorts"] (spP K T_none_of) := by
 obtain ⟨fd,F⟩ := T.F_none_of
 refine fn_P (k := 0) F T.g_none_of (fun _ _ _ _ _ _ us hl=>match us,hl with | [_],_=>rfl) S_none_of (fun ds Qd h=>by first | (obtain ⟨rfl,_⟩ := h; rfl) | (obtain ⟨_,rfl,_⟩ := h; rfl) | (obtain ⟨_,_,rfl,_⟩ := h; rfl) | (obtain ⟨_,_,_,rfl,_⟩ := h; rfl) | (obtain ⟨_,_,_,_,rfl,_⟩ := h; rfl) | (obtain ⟨_,_,_,_,_,rfl,_⟩ := h; rfl) | (obtain ⟨_,_,_,_,_,_,rfl,_⟩ := h; rfl) | (obtain ⟨_,_,_,_,_,_,_,rfl,_⟩ := h; rfl) | (obtain ⟨_,_,_,_,_,_,_,_,rfl,_⟩ := h; rfl) | (obtain ⟨_,_,_,_,_,_,_,_,_,rfl,_⟩ := h; rfl) | (obtain ⟨_,_,_,_,_,_,_,_,_,_,rfl,_⟩ := h; rfl) | (obtain ⟨_,_,_,_,_,_,_,_,_,_,_,rfl,_⟩ := h; rfl)) fun cdv A outer s H E hr=>⟨_,(pss_one (ps_ret (pe_callTy (ktuple (K := K) rfl) (by rfl) T.n_tuple (by decide +kernel) (pa_cons (pe_lc (own := [("one",1)]) rfl S_none_of.nd (kwU (K := K) rfl (pv 0)) (blkOk_by (own := [("one",1)]) (N := N_none_of) (sc := defScope s_none_of) (by decide +kernel)) (fun _ _ _ _ _=>(pg_name (i := 1) S_none_of.nd rfl (by first | exact .inl rfl | exact .inr rfl))) (fun _ _ _ _ _=>pts_nil) (fun _ _ _ _ _=>pe_int)) pa_nil)))),fun ds Qd h=>?_⟩
 obtain ⟨xs,d,rfl,hs,hl,q⟩ := h
 refine ws_ret<|ew_cb<|ea_cons<|ew_new<|en_lcM (f := fun _=>.int 0)<|ei_seq d hs<|ew_var rfl ⟨rfl,rfl,by rw [strsD_len]; omega,fun i y hy=>gv_name (by decide)<|ew_int ⟨rfl,rfl⟩,ea_nil<|opa_tuple rfl ?_⟩
 rw [zer_map]; exact q
def T_one_of : List D -> (D -> Prop) -> Prop := fun ds Q=>∃ xs d s,ds = [d,.str s] /\ d.seq = some (strsD xs) /\ xs.length <= 1000 /\ Q (intsT (oneS xs s))
abbrev N_one_of : List Str := ["sorts", "sort", "one"]
theorem S_one_of : FnScope N_one_of ["sorts", "sort"] (defScope s_one_of) := ⟨rfl,rfl,rfl,by decide +kernel,rfl,by decide +kernel,by decide +kernel⟩
theorem ok_one_of (T : TX P K mg) : FnB P w K mg base 1 "one_of" ["sorts", "sort"] (spP K T_one_of) := by
 obtain ⟨fd,F⟩ := T.F_one_of
 refine fn_P (k := 0) F T.g_one_of (fun _ _ _ _ _ _ us hl=>match us,hl with | [_,_],_=>rfl) S_one_of (fun ds Qd h=>by first | (obtain ⟨rfl,_⟩ := h; rfl) | (obtain ⟨_,rfl,_⟩ := h; rfl) | (obtain ⟨_,_,rfl,_⟩ := h; rfl) | (obtain ⟨_,_,_,rfl,_⟩ := h; rfl) | (obtain ⟨_,_,_,_,rfl,_⟩ := h; rfl) | (obtain ⟨_,_,_,_,_,rfl,_⟩ := h; rfl) | (obtain ⟨_,_,_,_,_,_,rfl,_⟩ := h; rfl) | (obtain ⟨_,_,_,_,_,_,_,rfl,_⟩ := h; rfl) | (obtain ⟨_,_,_,_,_,_,_,_,rfl,_⟩ := h; rfl) | (obtain ⟨_,_,_,_,_,_,_,_,_,rfl,_⟩ := h; rfl) | (obtain ⟨_,_,_,_,_,_,_,_,_,_,rfl,_⟩ := h; rfl) | (obtain ⟨_,_,_,_,_,_,_,_,_,_,_,rfl,_⟩ := h; rfl)) fun cdv A outer s H E hr=>⟨_,(pss_one (ps_ret (pe_callTy (ktuple (K := K) rfl) (by rfl) T.n_tuple (by decide +kernel) (pa_cons (pe_lc (own := [("one",2)]) rfl S_one_of.nd (kwU (K := K) rfl (pv 0)) (blkOk_by (own := [("one",2)]) (N := N_one_of) (sc := defScope s_one_of) (by decide +kernel)) (fun _ _ _ _ _=>(pg_name (i := 2) S_one_of.nd rfl (by first | exact .inl rfl | exact .inr rfl))) (fun _ _ _ _ _=>pts_nil) (fun _ _ _ _ _=>(pe_ifExp (pt_cmpR op_eq (pv 2) (pv 1) (nomark _)) pe_int pe_int))) pa_nil)))),fun ds Qd h=>?_⟩
 obtain ⟨xs,d,s,rfl,hs,hl,q⟩ := h
 refine ws_ret<|ew_cb<|ea_cons<|ew_new<|en_lcM (f := fOne s)<|ei_seq d hs<|ew_var rfl ⟨rfl,rfl,by rw [strsD_len]; omega,fun i y hy=>?_,ea_nil<|opa_tuple rfl ?_⟩
 ·obtain ⟨x,_,rfl⟩ := List.mem_map.mp (List.mem_of_getElem? hy)
  refine gv_name (by decide)<|ew_if<|et_test<|ew_op<|ew_var rfl<|ew_var rfl<|op2_eq_str ⟨_,rfl,?_⟩
  by_cases c : x = s
  ·rw [decide_eq_true c]
   exact iteT<|ew_int ⟨rfl,by show _ = D.int (if x = s then 1 else 0); rw [if_pos c]⟩
  ·rw [decide_eq_false c]
   exact iteF<|ew_int ⟨rfl,by show _ = D.int (if x = s then 1 else 0); rw [if_neg c]⟩
 ·rw [fOne_map]; exact q
def T_higher_book : List D -> (D -> Prop) -> Prop := fun ds Q=>∃ (t : TB) (ps : List (List Key × D)) (b : Bk) (k : Tk),t.Ok /\ BkOk t b /\ k ∈ tokens t /\ ds = [tabI t ps,bookD b,tkD k] /\ Q (bookD (upB t b k))
abbrev N_higher_book : List Str := ["table", "book", "token"]
theorem S_higher_book : FnScope N_higher_book ["table", "book", "token"] (defScope s_higher_book) := ⟨rfl,rfl,rfl,by decide +kernel,rfl,by decide +kernel,by decide +kernel⟩
theorem ok_higher_book (T : TX P K mg) : FnB P w K mg base 2 "higher_book" ["table", "book", "token"] (spP K T_higher_book) := by
 obtain ⟨fd,F⟩ := T.F_higher_book
 have G_added := ok_added (P := P) (w := w) (base := base) T
 have G_one_of := ok_one_of (P := P) (w := w) (base := base) T
 have G_less := ok_less (P := P) (w := w) (base := base) T
 refine fn_P (k := 1) F T.g_higher_book (fun _ _ _ _ _ _ us hl=>match us,hl with | [_,_,_],_=>rfl) S_higher_book (fun ds Qd h=>by first | (obtain ⟨rfl,_⟩ := h; rfl) | (obtain ⟨_,rfl,_⟩ := h; rfl) | (obtain ⟨_,_,rfl,_⟩ := h; rfl) | (obtain ⟨_,_,_,rfl,_⟩ := h; rfl) | (obtain ⟨_,_,_,_,rfl,_⟩ := h; rfl) | (obtain ⟨_,_,_,_,_,rfl,_⟩ := h; rfl) | (obtain ⟨_,_,_,_,_,_,rfl,_⟩ := h; rfl) | (obtain ⟨_,_,_,_,_,_,_,rfl,_⟩ := h; rfl) | (obtain ⟨_,_,_,_,_,_,_,_,rfl,_⟩ := h; rfl) | (obtain ⟨_,_,_,_,_,_,_,_,_,rfl,_⟩ := h; rfl) | (obtain ⟨_,_,_,_,_,_,_,_,_,_,rfl,_⟩ := h; rfl) | (obtain ⟨_,_,_,_,_,_,_,_,_,_,_,rfl,_⟩ := h; rfl)) fun cdv A outer s H E hr=>⟨_,(pss_cons (ps_if (pt_cmpR op_eq (pe_ix (kix (K := K) rfl) (pv 2) pe_int (fun _ _=>rfl)) pe_str (nomark _)) (pss_one (ps_ret (pe_tup (pa_cons (pe_callF G_added (hr.mono (by first | decide | omega)) (pa_cons (pe_ix (kix (K := K) rfl) (pv 1) pe_int (fun _ _=>rfl)) (pa_cons (pe_callF G_one_of (hr.mono (by first | decide | omega)) (pa_cons (kfld (K := K) rfl (pv 0) rfl) (pa_cons (pe_ix (kix (K := K) rfl) (pv 2) pe_int (fun _ _=>rfl)) pa_nil))) pa_nil))) (pa_cons (pe_ix (kix (K := K) rfl) (pv 1) pe_int (fun _ _=>rfl)) pa_nil))))) pss_nil)
   (pss_one (ps_ret (pe_tup (pa_cons (pe_ix (kix (K := K) rfl) (pv 1) pe_int (fun _ _=>rfl)) (pa_cons (pe_callF G_less (hr.mono (by first | decide | omega)) (pa_cons (pe_ix (kix (K := K) rfl) (pv 1) pe_int (fun _ _=>rfl)) (pa_cons (pe_callF G_one_of (hr.mono (by first | decide | omega)) (pa_cons (kfld (K := K) rfl (pv 0) rfl) (pa_cons (pe_ix (kix (K := K) rfl) (pv 2) pe_int (fun _ _=>rfl)) pa_nil))) pa_nil))) pa_nil)))))),fun ds Qd h=>?_⟩
 obtain ⟨t,ps,b,k,o,hb,hk,rfl,q⟩ := h
 have w3 := o.w1
 have f3 := o.f1
 have l1 := hb.l1
 have l2 := hb.l2
 obtain ⟨f,s⟩ := k
 rcases mem_tok hk with ⟨e,i,hi⟩ | ⟨e,i,hi⟩
 ·have e : f = false := e
  subst e
  have qq : Qd (bookD (zAdd b.1 (oneS t.waits s),b.2)) := by
   rw [(oneS_inc o.wn hi l1.symm).1]
   unfold upB at q
   rw [if_neg (fun z=>Bool.false_ne_true z),idx_at o.wn hi] at q
   exact q
  refine ws_seq<|ws_if<|et_test<|ew_op<|ew_op<|ew_var rfl<|ew_int<|op2_ix (x := tkD (false,s)) (d := .str "waits") rfl rfl<|ew_str<|op2_eq_str ⟨_,rfl,?_⟩
  rw [decide_eq_true (show ("waits" : Str) = "waits" from rfl)]
  exact iteT<|ws_ret<|ew_tup<|ea_cons<|ew_callP<|ea_cons<|ew_op<|ew_var rfl<|ew_int<|op2_ix (x := bookD b) (d := intsT b.1) rfl rfl<|ea_cons<|ew_callP<|ea_cons<|ew_fld<|ew_var rfl ⟨"Table",_,_,rfl,T.cl_Table,T.na_Table_waits,rfl,ea_cons<|ew_op<|ew_var rfl<|ew_int<|op2_ix (x := tkD (false,s)) (d := .str s) rfl rfl<|ea_nil ⟨t.waits,_,s,rfl,rfl,by omega,ea_nil ⟨b.1,oneS t.waits s,rfl,by omega,ea_cons<|ew_op<|ew_var rfl<|ew_int<|op2_ix (x := bookD b) (d := intsT b.2) rfl rfl<|ea_nil ⟨by show 2 <= 100000; decide,qq⟩⟩⟩⟩
 ·have e : f = true := e
  subst e
  have qq : Qd (bookD (b.1,zSub b.2 (oneS t.frees s))) := by
   rw [(oneS_inc o.fn hi l2.symm).2]
   unfold upB at q
   rw [if_pos rfl,idx_at o.fn hi] at q
   exact q
  refine ws_seq<|ws_if<|et_test<|ew_op<|ew_op<|ew_var rfl<|ew_int<|op2_ix (x := tkD (true,s)) (d := .str "free") rfl rfl<|ew_str<|op2_eq_str ⟨_,rfl,?_⟩
  rw [decide_eq_false (show ¬ ("free" : Str) = "waits" by decide)]
  exact iteF<|ws_next<|ws_ret<|ew_tup<|ea_cons<|ew_op<|ew_var rfl<|ew_int<|op2_ix (x := bookD b) (d := intsT b.1) rfl rfl<|ea_cons<|ew_callP<|ea_cons<|ew_op<|ew_var rfl<|ew_int<|op2_ix (x := bookD b) (d := intsT b.2) rfl rfl<|ea_cons<|ew_callP<|ea_cons<|ew_fld<|ew_var rfl ⟨"Table",_,_,rfl,T.cl_Table,T.na_Table_frees,rfl,ea_cons<|ew_op<|ew_var rfl<|ew_int<|op2_ix (x := tkD (true,s)) (d := .str s) rfl rfl<|ea_nil ⟨t.frees,_,s,rfl,rfl,by omega,ea_nil ⟨b.2,oneS t.frees s,_,rfl,.inl rfl,by omega,ea_nil ⟨by show 2 <= 100000; decide,qq⟩⟩⟩⟩
theorem zSub_le (xs ys : List Int) : (zSub xs ys).length <= xs.length := by unfold zSub; rw [List.length_zipWith]; omega
theorem mem_ll {xs : List Int} : (.lst (xs.map D.int) : D) ∈ ([.lst [],.lst [.int 1]] : List D) ↔ (xs = [] \/ xs = [1]) := by
 constructor
 ·intro h
  rcases List.mem_cons.mp h with h | h
  ·exact .inl (List.map_eq_nil_iff.mp (D.lst.inj h))
  ·have h := D.lst.inj (List.mem_singleton.mp h)
   match xs,h with
   | [x],h=>cases h; exact .inr rfl
 ·rintro (rfl | rfl)
  ·exact List.mem_cons_self
  ·exact List.mem_cons_of_mem _ List.mem_cons_self
def T_is_near : List D -> (D -> Prop) -> Prop := fun ds Q=>∃ l h : Bk,ds = [bookD l,bookD h] /\ l.1.length <= 3 /\ l.2.length <= 3 /\ h.1.length <= 3 /\ h.2.length <= 3 /\ Q (.bl (nearB l h))
abbrev N_is_near : List Str := ["lower", "higher", "more", "fewer", "one"]
theorem S_is_near : FnScope N_is_near ["lower", "higher"] (defScope s_is_near) := ⟨rfl,rfl,rfl,by decide +kernel,rfl,by decide +kernel,by decide +kernel⟩
theorem ok_is_near (T : TX P K mg) : FnB P w K mg base 2 "is_near" ["lower", "higher"] (spP K T_is_near) := by
 obtain ⟨fd,F⟩ := T.F_is_near
 have G_less := ok_less (P := P) (w := w) (base := base) T
 refine fn_P (k := 1) F T.g_is_near (fun _ _ _ _ _ _ us hl=>match us,hl with | [_,_],_=>rfl) S_is_near (fun ds Qd h=>by first | (obtain ⟨rfl,_⟩ := h; rfl) | (obtain ⟨_,rfl,_⟩ := h; rfl) | (obtain ⟨_,_,rfl,_⟩ := h; rfl) | (obtain ⟨_,_,_,rfl,_⟩ := h; rfl) | (obtain ⟨_,_,_,_,rfl,_⟩ := h; rfl) | (obtain ⟨_,_,_,_,_,rfl,_⟩ := h; rfl) | (obtain ⟨_,_,_,_,_,_,rfl,_⟩ := h; rfl) | (obtain ⟨_,_,_,_,_,_,_,rfl,_⟩ := h; rfl) | (obtain ⟨_,_,_,_,_,_,_,_,rfl,_⟩ := h; rfl) | (obtain ⟨_,_,_,_,_,_,_,_,_,rfl,_⟩ := h; rfl) | (obtain ⟨_,_,_,_,_,_,_,_,_,_,rfl,_⟩ := h; rfl) | (obtain ⟨_,_,_,_,_,_,_,_,_,_,_,rfl,_⟩ := h; rfl)) fun cdv A outer s H E hr=>⟨_,(pss_cons (ps_setLc (i := 2) (own := [("one",4)]) rfl S_is_near.nd rfl rfl (sw_true rfl rfl rfl (by decide +kernel)) (kwU (K := K) rfl (pe_callF G_less (hr.mono (by first | decide | omega)) (pa_cons (pe_ix (kix (K := K) rfl) (pv 1) pe_int (fun _ _=>rfl)) (pa_cons (pe_ix (kix (K := K) rfl) (pv 0) pe_int (fun _ _=>rfl)) pa_nil)))) (blkOk_by (own := [("one",4)]) (N := N_is_near) (sc := defScope s_is_near) (by decide +kernel)) (fun _ _ _ _ _=>(pg_name (i := 4) S_is_near.nd rfl (by first | exact .inl rfl | exact .inr rfl))) (fun _ _ _ _ _=>(pts_one (pt_cmpR op_ne (pv 4) pe_int (nomark _)))) (fun _ _ _ _ _=>(pv 4)))
   (pss_cons (ps_setLc (i := 3) (own := [("one",4)]) rfl S_is_near.nd rfl rfl (sw_true rfl rfl rfl (by decide +kernel)) (kwU (K := K) rfl (pe_callF G_less (hr.mono (by first | decide | omega)) (pa_cons (pe_ix (kix (K := K) rfl) (pv 0) pe_int (fun _ _=>rfl)) (pa_cons (pe_ix (kix (K := K) rfl) (pv 1) pe_int (fun _ _=>rfl)) pa_nil)))) (blkOk_by (own := [("one",4)]) (N := N_is_near) (sc := defScope s_is_near) (by decide +kernel)) (fun _ _ _ _ _=>(pg_name (i := 4) S_is_near.nd rfl (by first | exact .inl rfl | exact .inr rfl))) (fun _ _ _ _ _=>(pts_one (pt_cmpR op_ne (pv 4) pe_int (nomark _)))) (fun _ _ _ _ _=>(pv 4)))
   (pss_one (ps_ret (pe_cmpR (kinDT (K := K) rfl (units65 hr)) (pe_op op_cat (pv 2) (pv 3)) (pe_tup (pa_cons (pe_lst pa_nil) (pa_cons (pe_lst (pa_cons pe_int pa_nil)) pa_nil))) (by rfl)))))),fun ds Qd h=>?_⟩
 obtain ⟨l,b,rfl,h1,h2,h3,h4,q⟩ := h
 have nzf : ∀ xs : List Int,xs.filter (fun x=>decide (x ≠ 0)) = nz xs := fun _=>rfl
 have z1 := zSub_le b.1 l.1
 have z2 := zSub_le l.2 b.2
 have n1 : (nz (zSub b.1 l.1)).length <= 3 := Nat.le_trans (List.length_filter_le _ _) (by omega)
 have n2 : (nz (zSub l.2 b.2)).length <= 3 := Nat.le_trans (List.length_filter_le _ _) (by omega)
 have nz1 : ∀ x : Int,Op2 K rNe (.int x) (.int 0) = Op2 K rNe (.int x) (.int 0) := fun _=>rfl
 refine ws_seq<|ws_asg<|ew_new<|en_lcFt D.int (zSub b.1 l.1) D.int (fun x=>decide (x ≠ 0))<|ei_seq (intsT (zSub b.1 l.1)) rfl<|ew_callP<|ea_cons<|ew_op<|ew_var rfl<|ew_int<|op2_ix (x := bookD b) (d := intsT b.1) rfl rfl<|ea_cons<|ew_op<|ew_var rfl<|ew_int<|op2_ix (x := bookD l) (d := intsT l.1) rfl rfl<|ea_nil ⟨b.1,l.1,_,rfl,.inl rfl,by omega,rfl,rfl,rfl,by omega,fun x hx=>?_,gw_name ?_⟩
 ·exact gv_name (by decide)<|et_test<|ew_op<|ew_var rfl<|ew_int<|op2_ne_int ⟨_,rfl,rfl,by simp,fun _=>ew_var rfl ⟨rfl,rfl⟩⟩
 rw [nzf]
 refine ws_seq<|ws_asg<|ew_new<|en_lcFt D.int (zSub l.2 b.2) D.int (fun x=>decide (x ≠ 0))<|ei_seq (intsT (zSub l.2 b.2)) rfl<|ew_callP<|ea_cons<|ew_op<|ew_var rfl<|ew_int<|op2_ix (x := bookD l) (d := intsT l.2) rfl rfl<|ea_cons<|ew_op<|ew_var rfl<|ew_int<|op2_ix (x := bookD b) (d := intsT b.2) rfl rfl<|ea_nil ⟨l.2,b.2,_,rfl,.inl rfl,by omega,rfl,rfl,rfl,by omega,fun x hx=>?_,gw_name ?_⟩
 ·exact gv_name (by decide)<|et_test<|ew_op<|ew_var rfl<|ew_int<|op2_ne_int ⟨_,rfl,rfl,by simp,fun _=>ew_var rfl ⟨rfl,rfl⟩⟩
 rw [nzf]
 have pi : ∀ xs : List Int,PyI 2 (.lst (xs.map D.int)) := fun xs=>.lst fun x hx=>by
  obtain ⟨i,_,rfl⟩ := List.mem_map.mp hx
  exact .int i
 refine ws_ret<|ew_op<|ew_new<|en_cat<|ew_var rfl<|ew_var rfl ⟨_,_,rfl,rfl,by rw [List.length_map,List.length_map]; omega,?_⟩
 rw [<- List.map_append]
 refine ew_tup<|ea_cons<|ew_new<|en_lst<|ea_nil ⟨by show 0 <= 100000; decide,ea_cons<|ew_new<|en_lst<|ea_cons<|ew_int<|ea_nil ⟨by show 1 <= 100000; decide,ea_nil ⟨by show 2 <= 100000; decide,?_⟩⟩⟩
 refine op2_inDT (n := 2) (b := nearB l b) (pi _) (mem2 (pi []) (pi [1])) (by decide) ?_ q
 unfold nearB difB
 rw [decide_eq_true_iff]
 exact mem_ll.symm
end
end K65
namespace K65
open PySem PySem.Spec PyProof.Rows L2 DL SrtK
variable [TabL]
abbrev qC : Str := "cases_of.<locals>.<lambda>"
class LamF (K : PySem.W.Frag) (mg : Str -> Option Value) (base : Heap) : Prop where
 cases_of : ∃ Pt,LamX.TabB base mg (He.cT K ("cases_of",none)).1 Pt /\ (Pt,qC) ∈ TabL.tabs
abbrev Case := Bk × Tk × (Str × Str)
def caseD (c : Case) : D := .tup [bookD c.1,tkD c.2.1,comerD c.2.2]
def unkey : List Key -> Str × Str
 | [.inr a,.inr b]=>(a,b)
 | _=>("", "")
noncomputable def comersL (t : TB) : List (Str × Str) := (srtK (t.cs.map fun c=>keyP c.1)).map unkey
theorem comersL_mem {t : TB} {k : Str × Str} : k ∈ comersL t ↔ ∃ rows,(k,rows) ∈ t.cs := by
 unfold comersL
 constructor
 ·intro h
  obtain ⟨ks,hk,rfl⟩ := List.mem_map.mp h
  obtain ⟨c,hc,rfl⟩ := List.mem_map.mp (srtK_mem.mp hk)
  exact ⟨c.2,hc⟩
 ·rintro ⟨rows,h⟩
  exact List.mem_map.mpr ⟨keyP k,srtK_mem.mpr (List.mem_map.mpr ⟨(k,rows),h,rfl⟩),rfl⟩
theorem comersL_len (t : TB) : (comersL t).length = t.cs.length := by
 unfold comersL
 rw [List.length_map,srtK_len,List.length_map]
theorem comersL_d (t : TB) : (srtK (t.cs.map fun c=>keyP c.1)).map (fun k=>D.tup (k.map kD)) = (comersL t).map comerD := by
 unfold comersL
 rw [List.map_map]
 refine List.map_congr_left fun k hk=>?_
 obtain ⟨c,_,rfl⟩ := List.mem_map.mp (srtK_mem.mp hk)
 rfl
def sortsO (t : TB) (k : Str × Str) : List Str := if k.1 = "place" then t.waits else t.frees
def caseI (t : TB) (k : Str × Str) (cs : List Int) (sn : Str × Int) : List Case :=
 if k.1 = "place" then (if sn.2 < (t.depth : Nat) then [((cs,zer t.frees.length),(false,sn.1),k)] else []) else (if sn.2 > 0 then [((zer t.waits.length,cs),(true,sn.1),k)] else [])
def caseC (t : TB) (k : Str × Str) (cs : List Int) : List Case := ((sortsO t k).zip cs).flatMap (caseI t k cs)
def caseK (t : TB) (k : Str × Str) : List Case := (allC t.depth (sortsO t k).length).flatMap (caseC t k)
noncomputable def casesU (t : TB) : List Case := (comersL t).flatMap (caseK t)
noncomputable def casesL (t : TB) : List Case := (casesU t).mergeSort fun a b=>decide (unitsB a.1 <= unitsB b.1)
theorem flat_le {α β : Type} {f : α -> List β} {m : Nat} : ∀ {xs : List α},(∀ x ∈ xs,(f x).length <= m) -> (xs.flatMap f).length <= xs.length * m
 | [],_=>by simp
 | x :: xs,h=>by
  rw [List.flatMap_cons,List.length_append,List.length_cons,Nat.add_mul,Nat.one_mul]
  have := h x List.mem_cons_self
  have := flat_le (xs := xs) fun y hy=>h y (List.mem_cons_of_mem _ hy)
  omega
theorem caseI_le (t : TB) (k : Str × Str) (cs : List Int) (sn : Str × Int) : (caseI t k cs sn).length <= 1 := by
 unfold caseI
 split <;> split <;> simp
theorem sortsO_le {t : TB} (o : t.Ok) (k : Str × Str) : (sortsO t k).length <= 3 := by
 have := o.w1
 have := o.f1
 unfold sortsO
 split <;> omega
theorem caseC_le {t : TB} (o : t.Ok) (k : Str × Str) (cs : List Int) : (caseC t k cs).length <= 3 := by
 unfold caseC
 have h1 := flat_le (xs := (sortsO t k).zip cs) (f := caseI t k cs) (m := 1) fun x _=>caseI_le t k cs x
 have h2 := sortsO_le o k
 rw [List.length_zip] at h1
 omega
theorem allC_le {t : TB} (o : t.Ok) (n : Nat) (h : n <= 3) : (allC t.depth n).length <= 64 := by
 rw [allC_len]
 exact Nat.le_trans (Nat.pow_le_pow_right (by omega) h) (Nat.pow_le_pow_left (by have := o.d1; omega : t.depth + 1 <= 4) 3)
theorem caseK_le {t : TB} (o : t.Ok) (k : Str × Str) : (caseK t k).length <= 192 := by
 unfold caseK
 have h1 := flat_le (xs := allC t.depth (sortsO t k).length) (f := caseC t k) (m := 3) fun x _=>caseC_le o k x
 have h2 := allC_le o _ (sortsO_le o k)
 omega
theorem flat_take {α β : Type} (f : α -> List β) {xs : List α} {i : Nat} {x : α} (h : xs[i]? = some x) : (xs.take (i + 1)).flatMap f = (xs.take i).flatMap f ++ f x := by
 rw [take_snoc h,List.flatMap_append,List.flatMap_cons,List.flatMap_nil,List.append_nil]
theorem flat_take_le {α β : Type} {f : α -> List β} {m : Nat} {xs : List α} (i : Nat) (h : ∀ x ∈ xs,(f x).length <= m) : ((xs.take i).flatMap f).length <= xs.length * m := by
 have := flat_le (xs := xs.take i) (f := f) (m := m) fun x hx=>h x (List.mem_of_mem_take hx)
 refine Nat.le_trans this (Nat.mul_le_mul_right _ ?_)
 rw [List.length_take]; omega
theorem zip_si {xs : List Str} {ys : List Int} {i : Nat} {d : D} (h : (zipD (strsD xs) (ys.map D.int))[i]? = some d) : ∃ s n,(xs.zip ys)[i]? = some (s,n) /\ d = .tup [.str s,.int n] := by
 obtain ⟨x,y,h1,h2,rfl⟩ := zipD_at h
 unfold strsD at h1
 rw [List.getElem?_map] at h1 h2
 obtain ⟨a,ha,rfl⟩ := Option.map_eq_some_iff.mp h1
 obtain ⟨b,hb,rfl⟩ := Option.map_eq_some_iff.mp h2
 exact ⟨a,b,by rw [List.getElem?_zip_eq_some]; exact ⟨ha,hb⟩,rfl⟩
section
variable {P : Program} {w : World} {K : PySem.W.Frag} {mg : Str -> Option Value} {base : Heap}
def T_Table_comers : TSp := fun ds Q X=>∃ (t : TB) (ps : List (List Key × D)),t.Ok /\ Held t ps /\ ds = [tabI t ps] /\ Q (.nw (.lst ((comersL t).map comerD)))
abbrev N_Table_comers : List Str := ["self"]
theorem S_Table_comers : FnScope N_Table_comers ["self"] (defScope s_Table_comers) := ⟨rfl,rfl,rfl,by decide +kernel,rfl,by decide +kernel,by decide +kernel⟩
theorem ok_Table_comers (T : TX P K mg) : FnM P w K mg base 1 "Table" "comers" ["self"] (spU K (TSh T_Table_comers)) := by
 obtain ⟨fd,F⟩ := T.F_Table_comers
 refine fn_SM (k := 0) F T.me_Table_comers T.cl_Table (fun _ _ _ _ _ _ us hl=>match us,hl with | [_],_=>rfl) S_Table_comers (fun ds Qd X h=>by first | (obtain ⟨rfl,_⟩ := h; rfl) | (obtain ⟨_,rfl,_⟩ := h; rfl) | (obtain ⟨_,_,rfl,_⟩ := h; rfl) | (obtain ⟨_,_,_,rfl,_⟩ := h; rfl) | (obtain ⟨_,_,_,_,rfl,_⟩ := h; rfl) | (obtain ⟨_,_,_,_,_,rfl,_⟩ := h; rfl) | (obtain ⟨_,_,_,_,_,_,rfl,_⟩ := h; rfl) | (obtain ⟨_,_,_,_,_,_,_,rfl,_⟩ := h; rfl) | (obtain ⟨_,_,_,_,_,_,_,_,rfl,_⟩ := h; rfl) | (obtain ⟨_,_,_,_,_,_,_,_,_,rfl,_⟩ := h; rfl) | (obtain ⟨_,_,_,_,_,_,_,_,_,_,rfl,_⟩ := h; rfl) | (obtain ⟨_,_,_,_,_,_,_,_,_,_,_,rfl,_⟩ := h; rfl)) fun cdv A outer s H W hcd hr tk po=>⟨_,(pss_one (ps_ret (pe_callTy (SG.clistT rfl) (by rfl) T.n_list (by decide +kernel) (pa_cons (kfld (K := K) rfl (pv 0) rfl) pa_nil)))),fun ds Qd X h=>?_⟩
 obtain ⟨t,ps,o,hh,rfl,q⟩ := h
 refine ws_retNew<|en_cb<|ea_cons<|ew_fld<|ew_var rfl ⟨"Table",_,_,rfl,T.cl_Table,T.na_Table_by_comer,rfl,ea_nil<|opn_listDT ?_⟩
 have e : (ps.map fun p : List Key × D=>D.tup (p.1.map kD)) = (comersL t).map comerD := by
  rw [<- comersL_d,hh.1]
  unfold heldP
  rw [List.map_map]; rfl
 rw [e]; exact q
variable [LamF K mg base]
def T_cases_of : TSp := fun ds Q X=>∃ (t : TB) (ps : List (List Key × D)),t.Ok /\ Held t ps /\ ds = [tabI t ps] /\ Q (.nw (.lst ((casesL t).map caseD)))
abbrev N_cases_of : List Str := ["table", "found", "comer", "is_place", "sorts", "counts", "sort", "count", "case"]
theorem S_cases_of : FnScope N_cases_of ["table"] (defScope s_cases_of) := ⟨rfl,rfl,rfl,by decide +kernel,rfl,by decide +kernel,by decide +kernel⟩
theorem ok_cases_of (T : TX P K mg) : FnX P w K mg base 6 "cases_of" ["table"] (spU K (TSh T_cases_of)) := by
 obtain ⟨fd,F⟩ := T.F_cases_of
 have M_Table_comers := ok_Table_comers (P := P) (w := w) (base := base) T
 have G_all_counts := ok_all_counts (P := P) (w := w) (base := base) T
 have G_none_of := ok_none_of (P := P) (w := w) (base := base) T
 obtain ⟨Pt,TB,hm⟩ := LamF.cases_of (K := K) (mg := mg) (base := base)
 refine fn_SX (k := 5) F T.g_cases_of (fun _ _ _ _ _ _ us hl=>match us,hl with | [_],_=>rfl) S_cases_of (fun ds Qd X h=>by first | (obtain ⟨rfl,_⟩ := h; rfl) | (obtain ⟨_,rfl,_⟩ := h; rfl) | (obtain ⟨_,_,rfl,_⟩ := h; rfl) | (obtain ⟨_,_,_,rfl,_⟩ := h; rfl) | (obtain ⟨_,_,_,_,rfl,_⟩ := h; rfl) | (obtain ⟨_,_,_,_,_,rfl,_⟩ := h; rfl) | (obtain ⟨_,_,_,_,_,_,rfl,_⟩ := h; rfl) | (obtain ⟨_,_,_,_,_,_,_,rfl,_⟩ := h; rfl) | (obtain ⟨_,_,_,_,_,_,_,_,rfl,_⟩ := h; rfl) | (obtain ⟨_,_,_,_,_,_,_,_,_,rfl,_⟩ := h; rfl) | (obtain ⟨_,_,_,_,_,_,_,_,_,_,rfl,_⟩ := h; rfl) | (obtain ⟨_,_,_,_,_,_,_,_,_,_,_,rfl,_⟩ := h; rfl)) fun cdv A outer s H W hcd hr tk po=>?_
 rw [code_of F] at hcd
 subst hcd
 refine ⟨_,(pss_cons (ps_set (i := 1) S_cases_of.nd rfl (by first | exact .inl rfl | exact .inr rfl) (pe_lst pa_nil))
   (pss_cons (ps_for po rfl (kwU (K := K) rfl (kmethX0 (K := K) rfl M_Table_comers tk (fun _ _ _ _ h=>h) (hr.mono (by first | decide | omega)) (pv 0))) (pg_name (i := 2) S_cases_of.nd rfl (by first | exact .inl rfl | exact .inr rfl))
   (pss_cons (ps_set (i := 3) S_cases_of.nd rfl (by first | exact .inl rfl | exact .inr rfl) (pe_cmpR op_eq (pe_ix (kix (K := K) rfl) (pv 2) pe_int (fun _ _=>rfl)) pe_str (nomark _)))
   (pss_cons (ps_set (i := 4) S_cases_of.nd rfl (by first | exact .inl rfl | exact .inr rfl) (pe_ifExp (pt_val (pv 3)) (kfld (K := K) rfl (pv 0) rfl) (kfld (K := K) rfl (pv 0) rfl)))
   (pss_one (ps_for po rfl (kwU (K := K) rfl (pe_callF G_all_counts (hr.mono (by first | decide | omega)) (pa_cons (pe_callB (klen (K := K) rfl) (by rfl) T.n_len (by decide +kernel) (pa_cons (pv 4) pa_nil)) (pa_cons (kfld (K := K) rfl (pv 0) rfl) pa_nil)))) (pg_name (i := 5) S_cases_of.nd rfl (by first | exact .inl rfl | exact .inr rfl))
   (pss_one (ps_for po rfl (kzipA (K := K) rfl (by rfl) T.n_zip (pa_cons (pv 4) (pa_cons (pv 5) pa_nil))) (kgt (K := K) (n := 2) rfl rfl (pgs_cons (pg_name (i := 6) S_cases_of.nd rfl (by first | exact .inl rfl | exact .inr rfl)) (pgs_cons (pg_name (i := 7) S_cases_of.nd rfl (by first | exact .inl rfl | exact .inr rfl)) pgs_nil)))
   (pss_cons (ps_if (PW.pt (pw_and (pt_val (pv 3)) (pw_and1 (pt_cmpR op_lt (pv 7) (kfld (K := K) rfl (pv 0) rfl) (nomark _))))) (pss_one (ps_expr (kbm (K := K) (id := "") rfl (pe_bm PySem.F.plainAttrs_list PySem.F.slot_list_append PySem.F.type_list_append mt_append (pv 1) (pa_cons (pe_tup (pa_cons (pe_tup (pa_cons (pv 5) (pa_cons (pe_callF G_none_of (hr.mono (by first | decide | omega)) (pa_cons (kfld (K := K) rfl (pv 0) rfl) pa_nil)) pa_nil))) (pa_cons (pe_tup (pa_cons pe_str (pa_cons (pv 6) pa_nil))) (pa_cons (pv 2) pa_nil)))) pa_nil))))) pss_nil)
   (pss_one (ps_if (PW.pt (pw_and (pt_not (pt_val (pv 3))) (pw_and1 (pt_cmpR op_gt (pv 7) pe_int (nomark _))))) (pss_one (ps_expr (kbm (K := K) (id := "") rfl (pe_bm PySem.F.plainAttrs_list PySem.F.slot_list_append PySem.F.type_list_append mt_append (pv 1) (pa_cons (pe_tup (pa_cons (pe_tup (pa_cons (pe_callF G_none_of (hr.mono (by first | decide | omega)) (pa_cons (kfld (K := K) rfl (pv 0) rfl) pa_nil)) (pa_cons (pv 5) pa_nil))) (pa_cons (pe_tup (pa_cons pe_str (pa_cons (pv 6) pa_nil))) (pa_cons (pv 2) pa_nil)))) pa_nil))))) pss_nil))))))))))
   (pss_one (ps_ret (SrtN.pe_sortL (j := 8) (k := 2) (by rfl) T.n_sorted (by decide +kernel) (pv 1) TB rfl (hr.mono (by first | decide | omega)) (SrtM.lamS1_by (sc := defScope s_cases_of) (by decide +kernel)) rfl (fun _ _ _ _ _ _=>rfl) (fun A outer s H f c' hr=>(pe_op op_add (pe_callB (SumT.ksumT rfl (K := K) rfl) (by rfl) T.n_sum (by decide +kernel) (pa_cons (pe_ix (kix (K := K) rfl) (pe_ix (kix (K := K) rfl) (pv 8) pe_int (fun _ _=>rfl)) pe_int (fun _ _=>rfl)) pa_nil)) (pe_callB (SumT.ksumT rfl (K := K) rfl) (by rfl) T.n_sum (by decide +kernel) (pa_cons (pe_ix (kix (K := K) rfl) (pe_ix (kix (K := K) rfl) (pv 8) pe_int (fun _ _=>rfl)) pe_int (fun _ _=>rfl)) pa_nil)))) rfl (SrtN.uix (N := N_cases_of) (by decide))))))),fun ds Qd X h=>?_⟩
 obtain ⟨t,ps,o,hh,rfl,q⟩ := h
 have w3 := o.w1
 have f3 := o.f1
 have c9 : ∀ {n : Nat},n <= 30 -> n <= 100000 := fun h=>by omega
 have cl4 : (comersL t).length <= 4 := by rw [comersL_len]; exact o.len
 refine ws_seq<|ws_asgN<|en_lst<|ea_nil ⟨c9 (by show 0 <= 30; decide),fun p=>?_⟩
 refine ws_seq<|ws_for<|ei_seq (.lst ((comersL t).map comerD)) rfl<|ew_methS<|ew_var rfl ⟨_,rfl,rfl,ea_nil ⟨t,ps,o,hh,rfl,rfl,fun i ρ=>∃ s2 s3 s4 s5 s6 s7 : Sl,ρ = [.sh (tabI t ps),.own p (.lst ((((comersL t).take i).flatMap (caseK t)).map caseD)),s2,s3,s4,s5,s6,s7,.un],⟨_,_,_,_,_,_,rfl⟩,?_,?_⟩⟩
 ·rintro i d ρ' hd ⟨s2,s3,s4,s5,s6,s7,rfl⟩
  rw [List.getElem?_map] at hd
  obtain ⟨k,hk,rfl⟩ := Option.map_eq_some_iff.mp hd
  obtain ⟨rows,hm⟩ := comersL_mem.mp (List.mem_of_getElem? hk)
  have hA : (((comersL t).take i).flatMap (caseK t)).length <= 768 := by
   have := flat_take_le (f := caseK t) (xs := comersL t) i fun x _=>caseK_le o x
   omega
  have e1 := flat_take (caseK t) hk
  generalize ((comersL t).take i).flatMap (caseK t) = A at *
  refine gw_name<|ws_seq<|ws_asg<|ew_op<|ew_op<|ew_var rfl<|ew_int<|op2_ix (x := comerD k) (d := .str k.1) rfl rfl<|ew_str<|op2_eq_str<|gw_name ?_
  show WS K _ [.sh (tabI t ps),.own p (.lst (A.map caseD)),.sh (comerD k),.sh (.bl (decide (k.1 = "place"))),s4,s5,s6,s7,.un] _
  refine ws_seq<|ws_asg<|ew_weak (Q₁ := fun d ρ1=>d = .tup (strsD (sortsO t k)) /\ ρ1 = [.sh (tabI t ps),.own p (.lst (A.map caseD)),.sh (comerD k),.sh (.bl (decide (k.1 = "place"))),s4,s5,s6,s7,.un]) ?_ ?_
  ·refine ew_if<|et_B<|ew_var rfl ⟨_,rfl,?_⟩
   unfold sortsO
   by_cases c : k.1 = ("place" : Str)
   ·rw [decide_eq_true c,if_pos c]
    exact iteT<|ew_fld<|ew_var rfl ⟨"Table",_,_,rfl,T.cl_Table,T.na_Table_waits,rfl,rfl,rfl⟩
   ·rw [decide_eq_false c,if_neg c]
    exact iteF<|ew_fld<|ew_var rfl ⟨"Table",_,_,rfl,T.cl_Table,T.na_Table_frees,rfl,rfl,rfl⟩
  rintro d ρ1 ⟨rfl,rfl⟩
  refine gw_name ?_
  show WS K _ [.sh (tabI t ps),.own p (.lst (A.map caseD)),.sh (comerD k),.sh (.bl (decide (k.1 = "place"))),.sh (.tup (strsD (sortsO t k))),s5,s6,s7,.un] _
  have so3 := sortsO_le o k
  have sl3 : (strsD (sortsO t k)).length = (sortsO t k).length := strsD_len _
  have hC64 := allC_le o _ so3
  refine ws_for<|ei_seq (.lst ((allC t.depth (sortsO t k).length).map intsT)) rfl<|ew_callP<|ea_cons<|ew_cb<|ea_cons<|ew_var rfl<|ea_nil<|opa_len rfl<|ea_cons<|ew_fld<|ew_var rfl ⟨"Table",_,_,rfl,T.cl_Table,T.na_Table_depth,rfl,ea_nil ⟨(sortsO t k).length,t.depth,by rw [sl3],so3,by have := o.d1; omega,rfl,fun j ρ=>∃ s5 s6 s7 : Sl,ρ = [.sh (tabI t ps),.own p (.lst ((A ++ ((allC t.depth (sortsO t k).length).take j).flatMap (caseC t k)).map caseD)),.sh (comerD k),.sh (.bl (decide (k.1 = "place"))),.sh (.tup (strsD (sortsO t k))),s5,s6,s7,.un],⟨_,_,_,by rw [List.take_zero,List.flatMap_nil,List.append_nil]⟩,?_,?_⟩⟩
  ·rintro j d ρ' hd ⟨s5,s6,s7,rfl⟩
   rw [List.getElem?_map] at hd
   obtain ⟨cs,hcs,rfl⟩ := Option.map_eq_some_iff.mp hd
   have hB : (((allC t.depth (sortsO t k).length).take j).flatMap (caseC t k)).length <= 192 := by
    have := flat_take_le (f := caseC t k) (xs := allC t.depth (sortsO t k).length) j fun x _=>caseC_le o k x
    omega
   have e2 : A ++ ((allC t.depth (sortsO t k).length).take (j + 1)).flatMap (caseC t k) = A ++ ((allC t.depth (sortsO t k).length).take j).flatMap (caseC t k) ++ caseC t k cs := by rw [flat_take (caseC t k) hcs,<- List.append_assoc]
   have hAB : (A ++ ((allC t.depth (sortsO t k).length).take j).flatMap (caseC t k)).length <= 1000 := by rw [List.length_append]; omega
   generalize A ++ ((allC t.depth (sortsO t k).length).take j).flatMap (caseC t k) = B at *
   have hcl := (allC_row t.depth (List.mem_of_getElem? hcs)).1
   have hzl : (zipD (strsD (sortsO t k)) (cs.map D.int)).length = ((sortsO t k).zip cs).length := by
    rw [zipD_len,List.length_zip,strsD_len,List.length_map]
   refine gw_name<|ws_for<|ei_zip<|ea_cons<|ew_var rfl<|ea_cons<|ew_var rfl<|ea_nil ⟨_,_,.inr rfl,fun l ρ=>∃ s6 s7 : Sl,ρ = [.sh (tabI t ps),.own p (.lst ((B ++ (((sortsO t k).zip cs).take l).flatMap (caseI t k cs)).map caseD)),.sh (comerD k),.sh (.bl (decide (k.1 = "place"))),.sh (.tup (strsD (sortsO t k))),.sh (intsT cs),s6,s7,.un],⟨_,_,by rw [List.take_zero,List.flatMap_nil,List.append_nil]; rfl⟩,?_,?_⟩
   ·rintro l d ρ' hd ⟨s6,s7,rfl⟩
    obtain ⟨s,n,hz,rfl⟩ := zip_si hd
    have hD : ((((sortsO t k).zip cs).take l).flatMap (caseI t k cs)).length <= 3 := by
     have := flat_take_le (f := caseI t k cs) (xs := (sortsO t k).zip cs) l fun x _=>caseI_le t k cs x
     rw [List.length_zip] at this
     omega
    have e3 : B ++ (((sortsO t k).zip cs).take (l + 1)).flatMap (caseI t k cs) = B ++ (((sortsO t k).zip cs).take l).flatMap (caseI t k cs) ++ caseI t k cs (s,n) := by rw [flat_take (caseI t k cs) hz,<- List.append_assoc]
    have hBD : ((B ++ (((sortsO t k).zip cs).take l).flatMap (caseI t k cs)).map caseD).length < 90000 := by rw [List.length_map,List.length_append]; omega
    generalize B ++ (((sortsO t k).zip cs).take l).flatMap (caseI t k cs) = C at *
    refine gw_tup rfl<|gws_cons<|gw_name<|gws_cons<|gw_name<|gws_nil ?_
    show WS K _ [.sh (tabI t ps),.own p (.lst (C.map caseD)),.sh (comerD k),.sh (.bl (decide (k.1 = "place"))),.sh (.tup (strsD (sortsO t k))),.sh (intsT cs),.sh (.str s),.sh (.int n),.un] _
    by_cases c : k.1 = ("place" : Str)
    ·rw [decide_eq_true c]
     have eI : caseI t k cs (s,n) = if n < (t.depth : Nat) then [((cs,zer t.frees.length),(false,s),k)] else [] := by unfold caseI; rw [if_pos c]
     rw [eI] at e3
     refine ws_seq<|ws_if<|et_and<|et_B<|ew_var rfl ⟨_,rfl,iteT<|et_test<|ew_op<|ew_var rfl<|ew_fld<|ew_var rfl ⟨"Table",_,_,rfl,T.cl_Table,T.na_Table_depth,rfl,op2_cmp ⟨_,rfl,ite_b (fun hn=>?_) (fun hn=>?_)⟩⟩⟩
     ·rw [if_pos (of_decide_eq_true hn)] at e3
      refine ws_drop<|ew_append (a := p) rfl<|ew_tup<|ea_cons<|ew_tup<|ea_cons<|ew_var rfl<|ea_cons<|ew_callP<|ea_cons<|ew_fld<|ew_var rfl ⟨"Table",_,_,rfl,T.cl_Table,T.na_Table_frees,rfl,ea_nil ⟨t.frees,_,rfl,rfl,by omega,ea_nil ⟨c9 (by show 2 <= 30; decide),ea_cons<|ew_tup<|ea_cons<|ew_str<|ea_cons<|ew_var rfl<|ea_nil ⟨c9 (by show 2 <= 30; decide),ea_cons<|ew_var rfl<|ea_nil ⟨c9 (by show 3 <= 30; decide),_,rfl,hBD,?_⟩⟩⟩⟩⟩
      refine ws_ifn (C := True) (et_and<|et_not<|et_B<|ew_var rfl ⟨_,rfl,iteF<|iteF ⟨rfl,trivial⟩⟩) fun _=>⟨.sh (.str s),.sh (.int n),?_⟩
      rw [e3,List.map_append]; rfl
     ·rw [if_neg (of_decide_eq_false hn),List.append_nil] at e3
      refine ws_next ?_
      refine ws_ifn (C := True) (et_and<|et_not<|et_B<|ew_var rfl ⟨_,rfl,iteF<|iteF ⟨rfl,trivial⟩⟩) fun _=>⟨.sh (.str s),.sh (.int n),?_⟩
      rw [e3]
    ·rw [decide_eq_false c]
     have eI : caseI t k cs (s,n) = if n > 0 then [((zer t.waits.length,cs),(true,s),k)] else [] := by unfold caseI; rw [if_neg c]
     rw [eI] at e3
     refine ws_seq<|ws_ifn (C := True) (et_and<|et_B<|ew_var rfl ⟨_,rfl,iteF<|iteF ⟨rfl,trivial⟩⟩) fun _=>?_
     refine ws_if<|et_and<|et_not<|et_B<|ew_var rfl ⟨_,rfl,iteT<|et_test<|ew_op<|ew_var rfl<|ew_int<|op2_cmp ⟨_,rfl,ite_b (fun hn=>?_) (fun hn=>?_)⟩⟩
     ·rw [if_pos (of_decide_eq_true hn)] at e3
      refine ws_drop<|ew_append (a := p) rfl<|ew_tup<|ea_cons<|ew_tup<|ea_cons<|ew_callP<|ea_cons<|ew_fld<|ew_var rfl ⟨"Table",_,_,rfl,T.cl_Table,T.na_Table_waits,rfl,ea_nil ⟨t.waits,_,rfl,rfl,by omega,ea_cons<|ew_var rfl<|ea_nil ⟨c9 (by show 2 <= 30; decide),ea_cons<|ew_tup<|ea_cons<|ew_str<|ea_cons<|ew_var rfl<|ea_nil ⟨c9 (by show 2 <= 30; decide),ea_cons<|ew_var rfl<|ea_nil ⟨c9 (by show 3 <= 30; decide),_,rfl,hBD,.sh (.str s),.sh (.int n),?_⟩⟩⟩⟩⟩
      rw [e3,List.map_append]; rfl
     ·rw [if_neg (of_decide_eq_false hn),List.append_nil] at e3
      refine ws_next ⟨.sh (.str s),.sh (.int n),?_⟩
      rw [e3]
   ·rintro ρ' ⟨s6,s7,rfl⟩
    refine ⟨.sh (intsT cs),s6,s7,?_⟩
    have e4 : (((sortsO t k).zip cs).take (zipD (strsD (sortsO t k)) (cs.map D.int)).length).flatMap (caseI t k cs) = caseC t k cs := by
     rw [hzl,List.take_length]; rfl
    rw [e2,e4]
  ·rintro ρ' ⟨s5,s6,s7,rfl⟩
   refine ⟨.sh (comerD k),.sh (.bl (decide (k.1 = "place"))),.sh (.tup (strsD (sortsO t k))),s5,s6,s7,?_⟩
   have e4 : ((allC t.depth (sortsO t k).length).take ((allC t.depth (sortsO t k).length).map intsT).length).flatMap (caseC t k) = caseK t k := by
    rw [List.length_map,List.take_length]; rfl
   rw [e1,e4]
 ·rintro ρ' ⟨s2,s3,s4,s5,s6,s7,rfl⟩
  rw [List.length_map,List.take_length]
  refine ws_share (i := 1) rfl ?_
  show WS K _ [.sh (tabI t ps),.sh (.lst ((casesU t).map caseD)),s2,s3,s4,s5,s6,s7,.un] _
  refine ws_retNew<|en_sortL hm<|ew_var rfl ⟨(casesU t).map caseD,_,rfl,keyed_int (f := caseD) (k := fun c : Case=>unitsB c.1) rfl fun c _=>?_,?_⟩
  ·exact ew_op<|ew_cb<|ea_cons<|ew_op<|ew_op<|ew_var rfl<|ew_int<|op2_ix (x := caseD c) (d := bookD c.1) rfl rfl<|ew_int<|op2_ix (x := bookD c.1) (d := intsT c.1.1) rfl rfl<|ea_nil<|opa_sumT<|ew_cb<|ea_cons<|ew_op<|ew_op<|ew_var rfl<|ew_int<|op2_ix (x := caseD c) (d := bookD c.1) rfl rfl<|ew_int<|op2_ix (x := bookD c.1) (d := intsT c.1.2) rfl rfl<|ea_nil<|opa_sumT<|op2_int ⟨rfl,rfl⟩
  ·rw [outD_int]; exact q
end
end K65
namespace K65
open PySem PySem.Spec PyProof.Rows L2 DL SrtK
variable [TabL]
theorem zip_at {xs : List Str} {ys : List Int} {s : Str} {n : Int} (h : (s,n) ∈ xs.zip ys) : ∃ i : Nat,xs[i]? = some s /\ ys[i]? = some n := by
 obtain ⟨i,hi⟩ := List.mem_iff_getElem?.mp h
 rw [List.getElem?_zip_eq_some] at hi
 exact ⟨i,hi.1,hi.2⟩
theorem at_zip {xs : List Str} {ys : List Int} {s : Str} {n : Int} {i : Nat} (h1 : xs[i]? = some s) (h2 : ys[i]? = some n) : (s,n) ∈ xs.zip ys := List.mem_iff_getElem?.mpr ⟨i,by rw [List.getElem?_zip_eq_some]; exact ⟨h1,h2⟩⟩
theorem mem_cases {t : TB} {c : Case} : c ∈ casesL t ↔ CaseT t c.1 c.2.1 c.2.2 /\ ∃ rows,(c.2.2,rows) ∈ t.cs := by
 unfold casesL casesU
 rw [List.mem_mergeSort]
 constructor
 ·intro h
  obtain ⟨k,hk,h⟩ := List.mem_flatMap.mp h
  obtain ⟨cs,hcs,h⟩ := List.mem_flatMap.mp h
  obtain ⟨⟨s,n⟩,hz,h⟩ := List.mem_flatMap.mp h
  obtain ⟨i,h1,h2⟩ := zip_at hz
  unfold caseI at h
  unfold sortsO at hcs h1
  by_cases e : k.1 = ("place" : Str)
  ·rw [if_pos e] at h hcs h1
   by_cases e2 : n < (t.depth : Nat)
   ·rw [if_pos e2] at h
    rw [List.mem_singleton.mp h]
    exact ⟨.inl ⟨e,hcs,rfl,rfl,i,n,h1,h2,e2⟩,comersL_mem.mp hk⟩
   ·rw [if_neg e2] at h; cases h
  ·rw [if_neg e] at h hcs h1
   by_cases e2 : n > 0
   ·rw [if_pos e2] at h
    rw [List.mem_singleton.mp h]
    exact ⟨.inr ⟨e,hcs,rfl,rfl,i,n,h1,h2,e2⟩,comersL_mem.mp hk⟩
   ·rw [if_neg e2] at h; cases h
 ·obtain ⟨⟨b1,b2⟩,⟨f,s⟩,k⟩ := c
  rintro ⟨⟨e,h1,h2,h3,i,n,h4,h5,h6⟩ | ⟨e,h1,h2,h3,i,n,h4,h5,h6⟩,hr⟩
  ·have h2 : b2 = _ := h2
   have h3 : f = false := h3
   subst h2; subst h3
   refine List.mem_flatMap.mpr ⟨k,comersL_mem.mpr hr,List.mem_flatMap.mpr ⟨b1,by unfold sortsO; rw [if_pos e]; exact h1,List.mem_flatMap.mpr ⟨(s,n),at_zip (i := i) (by unfold sortsO; rw [if_pos e]; exact h4) h5,?_⟩⟩⟩
   unfold caseI
   rw [if_pos e,if_pos h6]
   exact List.mem_cons_self
  ·have h2 : b1 = _ := h2
   have h3 : f = true := h3
   subst h2; subst h3
   refine List.mem_flatMap.mpr ⟨k,comersL_mem.mpr hr,List.mem_flatMap.mpr ⟨b2,by unfold sortsO; rw [if_neg e]; exact h1,List.mem_flatMap.mpr ⟨(s,n),at_zip (i := i) (by unfold sortsO; rw [if_neg e]; exact h4) h5,?_⟩⟩⟩
   unfold caseI
   rw [if_neg e,if_pos h6]
   exact List.mem_cons_self
theorem zer_pos {n : Nat} : ∀ x ∈ zer n,(0 : Int) <= x := fun x hx=>by rw [(List.mem_replicate.mp hx).2]; exact Int.le_refl _
theorem CaseT.bk {t : TB} (o : t.Ok) {c : Bk} {k : Tk} {m : Str × Str} (h : CaseT t c k m) : BkOk t c /\ k ∈ tokens t /\ hiB t c k = some (upB t c k) /\ c.1 ∈ allC t.depth t.waits.length /\ c.2 ∈ allC t.depth t.frees.length := by
 obtain ⟨b1,b2⟩ := c
 obtain ⟨f,s⟩ := k
 have z0 : ∀ n,zer n ∈ allC t.depth n := fun n=>allC_mem _ _ (zer_len n) fun x hx=>⟨zer_pos x hx,by rw [(List.mem_replicate.mp hx).2]; omega⟩
 rcases h with ⟨_,h1,h2,h3,i,x,h4,h5,h6⟩ | ⟨_,h1,h2,h3,i,x,h4,h5,h6⟩
 ·have h2 : b2 = _ := h2
  have h3 : f = false := h3
  subst h2; subst h3
  obtain ⟨r1,r2⟩ := allC_row _ h1
  refine ⟨⟨r1,zer_len _,fun x hx=>(r2 x hx).1,zer_pos⟩,tok_w h4,?_,h1,z0 _⟩
  unfold hiB
  rw [if_neg (fun z=>Bool.false_ne_true z.1)]
 ·have h2 : b1 = _ := h2
  have h3 : f = true := h3
  subst h2; subst h3
  obtain ⟨r1,r2⟩ := allC_row _ h1
  refine ⟨⟨zer_len _,r1,zer_pos,fun x hx=>(r2 x hx).1⟩,tok_f h4,?_,z0 _,h1⟩
  have h5 : b2[i]? = some x := h5
  unfold hiB
  rw [if_neg]
  rintro ⟨_,z⟩
  have z : b2.getD (t.frees.idxOf s) 0 <= 0 := z
  rw [idx_at o.fn h4,List.getD_eq_getElem?_getD,h5] at z
  have z : x <= 0 := z
  omega
def partB (t : TB) (c : Case) : Bool := match t.rowsAt c.2.2 with
 | some rows=>(match t.aft c.1 c.2.2 rows,t.aft (upB t c.1 c.2.1) c.2.2 rows with
  | some x,some y=>!nearB x y
  | _,_=>false)
 | none=>false
theorem partB_eq {t : TB} (o : t.Ok) {c : Case} {rows : List RowT} (hm : (c.2.2,rows) ∈ t.cs) {x y : Bk} (h1 : t.aft c.1 c.2.2 rows = some x) (h2 : t.aft (upB t c.1 c.2.1) c.2.2 rows = some y) : partB t c = !nearB x y := by
 unfold partB
 rw [mem_rowsAt o hm]
 show (match t.aft c.1 c.2.2 rows,t.aft (upB t c.1 c.2.1) c.2.2 rows with
  | some x,some y=>!nearB x y
  | _,_=>false) = _
 rw [h1,h2]
theorem partB_iff {t : TB} (o : t.Ok) {c : Case} (hc : c ∈ casesL t) {rows : List RowT} (hm : (c.2.2,rows) ∈ t.cs) : partB t c = true ↔ Parts t c.1 c.2.1 c.2.2 rows := by
 obtain ⟨hb,hk,hh,_,_⟩ := CaseT.bk o (mem_cases.mp hc).1
 have hb2 := (hi_cases o hb hk hh).1
 obtain ⟨x,hx⟩ := aft_ex o hb hm
 obtain ⟨y,hy⟩ := aft_ex o hb2 hm
 rw [partB_eq o hm hx hy]
 constructor
 ·intro h
  exact ⟨_,x,y,hh,hx,hy,by rw [Bool.not_eq_true'] at h; exact h⟩
 ·rintro ⟨h,x',y',e1,e2,e3,e4⟩
  rw [hh] at e1
  cases e1
  rw [hx] at e2
  rw [hy] at e3
  cases e2; cases e3
  rw [e4]; rfl
noncomputable def judgedL (t : TB) : Option Case := (casesL t).find? (partB t)
theorem find_first {α : Type} {p : α -> Bool} : ∀ {xs : List α} {i : Nat} {c : α},xs[i]? = some c -> (∀ a ∈ xs.take i,p a = false) -> p c = true -> xs.find? p = some c
 | x :: xs,0,c,h,_,hc=>by
  cases h
  rw [List.find?_cons_of_pos hc]
 | x :: xs,i + 1,c,h,ha,hc=>by
  rw [List.find?_cons_of_neg (by rw [ha x (by rw [List.take_succ_cons]; exact List.mem_cons_self)]; exact Bool.false_ne_true)]
  exact find_first (by simpa using h) (fun a z=>ha a (by rw [List.take_succ_cons]; exact List.mem_cons_of_mem _ z)) hc
def faultD (c : Case) : D := .ins "Fault" [("book",bookD c.1),("token",tkD c.2.1),("comer",comerD c.2.2)]
def faultO : Option Case -> D
 | none=>.non
 | some c=>faultD c
theorem comer_ok {t : TB} (o : t.Ok) {m : Str × Str} {rows : List RowT} (h : (m,rows) ∈ t.cs) : Ok (comerD m) /\ HeadS (comerD m) := by
 have h1 := side_len (o.side _ h)
 have h2 := name_len (o.name _ h)
 refine ⟨.tup (by show 2 <= 1000; decide) (mem2 (.str (by show m.1.length <= 1000; have h1 : m.1.length <= 6 := h1; omega)) (.str (by have h2 : m.2.length <= 8 := h2; omega))),fun xs e=>by cases e; exact .inr ⟨_,_,rfl⟩⟩
theorem comerOf_d {t : TB} (o : t.Ok) {m : Str × Str} {rows : List RowT} (h : (m,rows) ∈ t.cs) : t.comerOf (comerD m) = some (m,rows) := by
 have e : t.rowsAt (m.1,m.2) = some rows := mem_rowsAt o (k := m) (rows := rows) h
 show (t.rowsAt (m.1,m.2)).map _ = _
 rw [e]; rfl
theorem okBk {t : TB} (o : t.Ok) {b : Bk} (h : BkOk t b) : Ok (bookD b) := (show OkN 4 _ from h.bookD.okN o).ok
theorem aftG {t : TB} (o : t.Ok) {b b2 : Bk} {m : Str × Str} {rows : List RowT} (hm : (m,rows) ∈ t.cs) (h : t.aft b m rows = some b2) {Q : D -> Prop} {X : Str -> Str -> D -> Prop} (q : Q (bookD b2)) : AftRes t b (comerD m) Q X := by
 unfold AftRes
 rw [comerOf_d o hm]
 intro b' hb'
 rw [h] at hb'
 cases hb'
 exact q
section
variable {P : Program} {w : World} {K : PySem.W.Frag} {mg : Str -> Option Value} {base : Heap}
def T_Fault___init__ : List D -> (D -> Prop) -> Prop := fun ds Q=>∃ a b c : D,ds = [a,b,c] /\ Q (.ins "Fault" [("book",a),("token",b),("comer",c)])
abbrev N_Fault___init__ : List Str := ["self", "book", "token", "comer"]
theorem S_Fault___init__ : FnScope N_Fault___init__ ["self", "book", "token", "comer"] (defScope s_Fault___init__) := ⟨rfl,rfl,rfl,by decide +kernel,rfl,by decide +kernel,by decide +kernel⟩
theorem ok_Fault___init__ (T : TX P K mg) : FnI P w K mg base 1 "Fault" ["self", "book", "token", "comer"] (spI K "Fault" T_Fault___init__) := by
 obtain ⟨fd,F⟩ := T.F_Fault___init__
 refine fn_I (k := 0) F T.mk_Fault T.g_Fault (fun _ _ _ _ _ _ us hl=>match us,hl with | [_,_,_,_],_=>rfl) S_Fault___init__ (by decide) (fun ds Qd h=>by first | (obtain ⟨rfl,_⟩ := h; rfl) | (obtain ⟨_,rfl,_⟩ := h; rfl) | (obtain ⟨_,_,rfl,_⟩ := h; rfl) | (obtain ⟨_,_,_,rfl,_⟩ := h; rfl) | (obtain ⟨_,_,_,_,rfl,_⟩ := h; rfl) | (obtain ⟨_,_,_,_,_,rfl,_⟩ := h; rfl) | (obtain ⟨_,_,_,_,_,_,rfl,_⟩ := h; rfl) | (obtain ⟨_,_,_,_,_,_,_,rfl,_⟩ := h; rfl) | (obtain ⟨_,_,_,_,_,_,_,_,rfl,_⟩ := h; rfl) | (obtain ⟨_,_,_,_,_,_,_,_,_,rfl,_⟩ := h; rfl) | (obtain ⟨_,_,_,_,_,_,_,_,_,_,rfl,_⟩ := h; rfl) | (obtain ⟨_,_,_,_,_,_,_,_,_,_,_,rfl,_⟩ := h; rfl)) fun cdv A outer s H E hr=>⟨_,(pss_cons (ps_fld (pv 0) (pv 1) (by rfl))
   (pss_cons (ps_fld (pv 0) (pv 2) (by rfl))
   (pss_one (ps_fld (pv 0) (pv 3) (by rfl))))),fun a ds Qd h=>?_⟩
 obtain ⟨i,h,x,rfl,q⟩ := h
 refine ws_seq<|ws_fldset (a := a) T.cl_Fault T.na_Fault_book<|ew_var rfl ⟨[],rfl,by show 0 < 1000; decide,?_⟩
 refine ws_seq<|ws_fldset (a := a) T.cl_Fault T.na_Fault_token<|ew_var rfl ⟨_,rfl,by show 1 < 1000; decide,?_⟩
 exact ws_fldset (a := a) T.cl_Fault T.na_Fault_comer<|ew_var rfl ⟨_,rfl,by show 2 < 1000; decide,_,rfl,q⟩
variable [LamF K mg base]
def T_judged : TSp := fun ds Q X=>∃ (t : TB) (ps : List (List Key × D)),t.Ok /\ Held t ps /\ ds = [tabI t ps] /\ Q (.sh (faultO (judgedL t)))
abbrev N_judged : List Str := ["table", "book", "token", "comer", "higher"]
theorem S_judged : FnScope N_judged ["table"] (defScope s_judged) := ⟨rfl,rfl,rfl,by decide +kernel,rfl,by decide +kernel,by decide +kernel⟩
theorem ok_judged (T : TX P K mg) : FnX P w K mg base 7 "judged" ["table"] (spU K (TSh T_judged)) := by
 obtain ⟨fd,F⟩ := T.F_judged
 have G_cases_of := ok_cases_of (P := P) (w := w) (base := base) T
 have G_higher_book := ok_higher_book (P := P) (w := w) (base := base) T
 have G_is_near := ok_is_near (P := P) (w := w) (base := base) T
 have M_Table_after := ok_Table_after (P := P) (w := w) (base := base) T
 have I_Fault := ok_Fault___init__ (P := P) (w := w) (base := base) T
 refine fn_SX (k := 6) F T.g_judged (fun _ _ _ _ _ _ us hl=>match us,hl with | [_],_=>rfl) S_judged (fun ds Qd X h=>by first | (obtain ⟨rfl,_⟩ := h; rfl) | (obtain ⟨_,rfl,_⟩ := h; rfl) | (obtain ⟨_,_,rfl,_⟩ := h; rfl) | (obtain ⟨_,_,_,rfl,_⟩ := h; rfl) | (obtain ⟨_,_,_,_,rfl,_⟩ := h; rfl) | (obtain ⟨_,_,_,_,_,rfl,_⟩ := h; rfl) | (obtain ⟨_,_,_,_,_,_,rfl,_⟩ := h; rfl) | (obtain ⟨_,_,_,_,_,_,_,rfl,_⟩ := h; rfl) | (obtain ⟨_,_,_,_,_,_,_,_,rfl,_⟩ := h; rfl) | (obtain ⟨_,_,_,_,_,_,_,_,_,rfl,_⟩ := h; rfl) | (obtain ⟨_,_,_,_,_,_,_,_,_,_,rfl,_⟩ := h; rfl) | (obtain ⟨_,_,_,_,_,_,_,_,_,_,_,rfl,_⟩ := h; rfl)) fun cdv A outer s H W hcd hr tk po=>⟨_,(pss_cons (ps_for po rfl (kwU (K := K) rfl (pe_callX G_cases_of tk (fun _ _ _ _ h=>h) (hr.mono (by first | decide | omega)) (pa_cons (pv 0) pa_nil))) (kgt (K := K) (n := 3) rfl rfl (pgs_cons (pg_name (i := 1) S_judged.nd rfl (by first | exact .inl rfl | exact .inr rfl)) (pgs_cons (pg_name (i := 2) S_judged.nd rfl (by first | exact .inl rfl | exact .inr rfl)) (pgs_cons (pg_name (i := 3) S_judged.nd rfl (by first | exact .inl rfl | exact .inr rfl)) pgs_nil))))
   (pss_cons (ps_set (i := 4) S_judged.nd rfl (by first | exact .inl rfl | exact .inr rfl) (pe_callF G_higher_book (hr.mono (by first | decide | omega)) (pa_cons (pv 0) (pa_cons (pv 1) (pa_cons (pv 2) pa_nil)))))
   (pss_one (ps_if (pt_not (pt_val (pe_callF G_is_near (hr.mono (by first | decide | omega)) (pa_cons (kmethX (K := K) rfl M_Table_after tk (fun _ _ _ _ h=>h) (hr.mono (by first | decide | omega)) (pv 0) (pa_cons (pv 1) (pa_cons (pv 3) pa_nil))) (pa_cons (kmethX (K := K) rfl M_Table_after tk (fun _ _ _ _ h=>h) (hr.mono (by first | decide | omega)) (pv 0) (pa_cons (pv 4) (pa_cons (pv 3) pa_nil))) pa_nil))))) (pss_one (ps_ret (pe_makeF I_Fault (hr.mono (by first | decide | omega)) (pa_cons (pv 1) (pa_cons (pv 2) (pa_cons (pv 3) pa_nil)))))) pss_nil))))
   (pss_one (ps_ret pe_non))),fun ds Qd X h=>?_⟩
 obtain ⟨t,ps,o,hh,rfl,q⟩ := h
 have w3 := o.w1
 have f3 := o.f1
 refine ws_seq<|ws_for<|ei_seq (.lst ((casesL t).map caseD)) rfl<|ew_new<|en_callS<|ea_cons<|ew_var rfl<|ea_nil ⟨t,ps,o,hh,rfl,_,rfl,rfl,fun i ρ=>∃ s1 s2 s3 s4 : Sl,(∀ c ∈ (casesL t).take i,partB t c = false) /\ ρ = [.sh (tabI t ps),s1,s2,s3,s4],⟨_,_,_,_,fun c hc=>(by rw [List.take_zero] at hc; exact (nomatch hc)),rfl⟩,?_,?_⟩
 ·rintro i d ρ' hd ⟨s1,s2,s3,s4,hno,rfl⟩
  rw [List.getElem?_map] at hd
  obtain ⟨c,hc,rfl⟩ := Option.map_eq_some_iff.mp hd
  have hcm := List.mem_of_getElem? hc
  obtain ⟨hct,rows,hm⟩ := mem_cases.mp hcm
  obtain ⟨hb,hk,hhi,_,_⟩ := CaseT.bk o hct
  have hb2 := (hi_cases o hb hk hhi).1
  obtain ⟨x,hx⟩ := aft_ex o hb hm
  obtain ⟨y,hy⟩ := aft_ex o hb2 hm
  have bx := aft_ok o hb hm hx
  have bY := aft_ok o hb2 hm hy
  have l1 := bx.l1
  have l2 := bx.l2
  have l3 := bY.l1
  have l4 := bY.l2
  obtain ⟨k1,k2⟩ := comer_ok o hm
  refine gw_tup rfl<|gws_cons<|gw_name<|gws_cons<|gw_name<|gws_cons<|gw_name<|gws_nil ?_
  show WS K _ [.sh (tabI t ps),.sh (bookD c.1),.sh (tkD c.2.1),.sh (comerD c.2.2),s4] _
  refine ws_seq<|ws_asg<|ew_callP<|ea_cons<|ew_var rfl<|ea_cons<|ew_var rfl<|ea_cons<|ew_var rfl<|ea_nil ⟨t,ps,c.1,c.2.1,o,hb,hk,rfl,gw_name ?_⟩
  show WS K _ [.sh (tabI t ps),.sh (bookD c.1),.sh (tkD c.2.1),.sh (comerD c.2.2),.sh (bookD (upB t c.1 c.2.1))] _
  refine ws_if<|et_not<|et_B<|ew_callP<|ea_cons<|ew_methS<|ew_var rfl ⟨_,rfl,rfl,ea_cons<|ew_var rfl<|ea_cons<|ew_var rfl<|ea_nil ⟨t,ps,bookD c.1,comerD c.2.2,o,hh,rfl,okBk o hb,.inr ⟨c.1,hb.bookD,k1,k2,aftG o hm hx<|ea_cons<|ew_methS<|ew_var rfl ⟨_,rfl,rfl,ea_cons<|ew_var rfl<|ea_cons<|ew_var rfl<|ea_nil ⟨t,ps,bookD (upB t c.1 c.2.1),comerD c.2.2,o,hh,rfl,okBk o hb2,.inr ⟨upB t c.1 c.2.1,hb2.bookD,k1,k2,aftG o hm hy<|ea_nil ⟨x,y,rfl,by omega,by omega,by omega,by omega,_,rfl,?_⟩⟩⟩⟩⟩⟩⟩
  have ep := partB_eq o hm hx hy
  cases hn : nearB x y with
  | true =>
   rw [hn] at ep
   refine iteF<|ws_next ⟨_,_,_,_,fun c' hc'=>?_,rfl⟩
   rw [take_snoc hc] at hc'
   rcases List.mem_append.mp hc' with z | z
   ·exact hno c' z
   ·rw [List.mem_singleton.mp z]; exact ep
  | false =>
   rw [hn] at ep
   refine iteT<|ws_ret<|ew_make<|ea_cons<|ew_var rfl<|ea_cons<|ew_var rfl<|ea_cons<|ew_var rfl<|ea_nil ⟨_,_,_,rfl,?_⟩
   unfold judgedL at q
   rw [find_first hc hno ep] at q
   exact q
 ·rintro ρ' ⟨s1,s2,s3,s4,hno,rfl⟩
  rw [List.length_map,List.take_length] at hno
  unfold judgedL at q
  rw [List.find?_eq_none.mpr fun c hc=>by rw [hno c hc]; exact Bool.false_ne_true] at q
  exact ws_ret<|ew_non q
end
end K65
namespace K65
open PySem PySem.Spec PyProof.Rows L2 DL SrtK
variable [TabL]
theorem inc_set : ∀ {xs : List Int} {i : Nat} {x : Int} (v : Int),xs[i]? = some x -> inc xs i v = xs.set i (x + v)
 | [],_,_,_,h=>by simp at h
 | a :: xs,0,x,v,h=>by cases h; rfl
 | a :: xs,i + 1,x,v,h=>by
  show a :: inc xs i v = a :: xs.set i (x + v)
  rw [inc_set v (by simpa using h)]
def hiD : Option Bk -> D
 | none=>.non
 | some b=>bookD b
def shT (xs : List Int) : TD := .nd .lst ((xs.map D.int).map TD.sh)
def rowsT (b : Bk) : TD := .nd .lst [shT b.1,shT b.2]
theorem shT_d (xs : List Int) : (shT xs).d = .lst (xs.map D.int) := by
 unfold shT
 rw [TD.d_nd,TD.map_sh]; rfl
theorem rowsT_d (b : Bk) : (rowsT b).d = .lst [.lst (b.1.map D.int),.lst (b.2.map D.int)] := by
 unfold rowsT
 rw [TD.d_nd]
 show D.lst [(shT b.1).d,(shT b.2).d] = _
 rw [shT_d,shT_d]
theorem at0 {b : Bk} {i : Nat} {x : Int} (hx : b.1[i]? = some x) : (rowsT b).at ([] ++ [0] ++ [i]) = some (.sh (.int x)) := by
 show (match ((b.1.map D.int).map TD.sh)[i]? with | some y=>some y | none=>none) = _
 rw [List.getElem?_map,List.getElem?_map,hx]; rfl
theorem at1 {b : Bk} {i : Nat} {x : Int} (hx : b.2[i]? = some x) : (rowsT b).at ([] ++ [1] ++ [i]) = some (.sh (.int x)) := by
 show (match ((b.2.map D.int).map TD.sh)[i]? with | some y=>some y | none=>none) = _
 rw [List.getElem?_map,List.getElem?_map,hx]; rfl
theorem shT_set (xs : List Int) (i : Nat) (y : Int) : TD.nd .lst (((xs.map D.int).map TD.sh).set i (.sh (.int y))) = shT (xs.set i y) := by
 unfold shT
 rw [List.map_set,List.map_set]
theorem upd0 {b : Bk} {i : Nat} {y : Int} : (rowsT b).upd ([] ++ [0]) (.nd .lst (((b.1.map D.int).map TD.sh).set i (.sh (.int y)))) = rowsT (b.1.set i y,b.2) := by
 rw [shT_set]; rfl
theorem upd1 {b : Bk} {i : Nat} {y : Int} : (rowsT b).upd ([] ++ [1]) (.nd .lst (((b.2.map D.int).map TD.sh).set i (.sh (.int y)))) = rowsT (b.1,b.2.set i y) := by
 rw [shT_set]; rfl
theorem ixN_at {xs : List Int} {i : Nat} {x : Int} (hx : xs[i]? = some x) : ixN ((xs.map D.int).map TD.sh).length (i : Nat) = some i := by
 have := lt_of_at hx
 rw [List.length_map,List.length_map]
 unfold ixN
 rw [if_pos (by omega),if_pos (by omega)]; rfl
section
variable {P : Program} {w : World} {K : PySem.W.Frag} {mg : Str -> Option Value} {base : Heap}
def T__law_higher : List D -> (D -> Prop) -> Prop := fun ds Q=>∃ (t : TB) (b : Bk) (k : Tk),t.Ok /\ BkOk t b /\ k ∈ tokens t /\ ds = [tblD t,bookD b,tkD k] /\ Q (hiD (hiB t b k))
abbrev N__law_higher : List Str := ["_law_table", "_law_book", "_law_token", "_law_side", "_law_sorts", "_law_rows", "_law_at"]
theorem S__law_higher : FnScope N__law_higher ["_law_table", "_law_book", "_law_token"] (defScope s__law_higher) := ⟨rfl,rfl,rfl,by decide +kernel,rfl,by decide +kernel,by decide +kernel⟩
theorem ok__law_higher (T : TX P K mg) : FnB P w K mg base 1 "_law_higher" ["_law_table", "_law_book", "_law_token"] (spP K T__law_higher) := by
 obtain ⟨fd,F⟩ := T.F__law_higher
 refine fn_P (k := 0) F T.g__law_higher (fun _ _ _ _ _ _ us hl=>match us,hl with | [_,_,_],_=>rfl) S__law_higher (fun ds Qd h=>by first | (obtain ⟨rfl,_⟩ := h; rfl) | (obtain ⟨_,rfl,_⟩ := h; rfl) | (obtain ⟨_,_,rfl,_⟩ := h; rfl) | (obtain ⟨_,_,_,rfl,_⟩ := h; rfl) | (obtain ⟨_,_,_,_,rfl,_⟩ := h; rfl) | (obtain ⟨_,_,_,_,_,rfl,_⟩ := h; rfl) | (obtain ⟨_,_,_,_,_,_,rfl,_⟩ := h; rfl) | (obtain ⟨_,_,_,_,_,_,_,rfl,_⟩ := h; rfl) | (obtain ⟨_,_,_,_,_,_,_,_,rfl,_⟩ := h; rfl) | (obtain ⟨_,_,_,_,_,_,_,_,_,rfl,_⟩ := h; rfl) | (obtain ⟨_,_,_,_,_,_,_,_,_,_,rfl,_⟩ := h; rfl) | (obtain ⟨_,_,_,_,_,_,_,_,_,_,_,rfl,_⟩ := h; rfl)) fun cdv A outer s H E hr=>⟨_,(pss_cons (ps_set (i := 3) S__law_higher.nd rfl (by first | exact .inl rfl | exact .inr rfl) (pe_callTy call_int1 (by rfl) T.n_int (by decide +kernel) (pa_cons (pe_cmpR op_eq (pe_ix (kix (K := K) rfl) (pv 2) pe_int (fun _ _=>rfl)) pe_str (nomark _)) pa_nil)))
   (pss_cons (ps_par (i := 4) (j := 5) (by rfl) S__law_higher.nd rfl rfl (by decide) (by rfl) (by rfl) (pa_cons (pe_ix (kix (K := K) rfl) (pv 0) (pv 3) (fun _ _=>rfl)) (pa_cons (pe_lst (pa_cons (pe_callTy (klist (K := K) rfl) (by rfl) T.n_list (by decide +kernel) (pa_cons (pe_ix (kix (K := K) rfl) (pv 1) pe_int (fun _ _=>rfl)) pa_nil)) (pa_cons (pe_callTy (klist (K := K) rfl) (by rfl) T.n_list (by decide +kernel) (pa_cons (pe_ix (kix (K := K) rfl) (pv 1) pe_int (fun _ _=>rfl)) pa_nil)) pa_nil))) pa_nil)) (by rfl))
   (pss_cons (ps_set (i := 6) S__law_higher.nd rfl (by first | exact .inl rfl | exact .inr rfl) (kbm (K := K) (id := "") rfl (pe_bm PySem.F.plainAttrs_list PySem.F.slot_list_index PySem.F.type_list_index mt_index (pv 4) (pa_cons (pe_ix (kix (K := K) rfl) (pv 2) pe_int (fun _ _=>rfl)) pa_nil))))
   (pss_cons (ps_asg (pe_op op_add (pe_ix (kix (K := K) rfl) (pe_ix (kix (K := K) rfl) (pv 5) (pv 3) (fun _ _=>rfl)) (pv 6) (fun _ _=>rfl)) (pe_ifExp (pt_cmpR op_eq (pv 3) pe_int (nomark _)) pe_int (pe_un un_neg pe_int))) (pg_sub (pe_ix (kix (K := K) rfl) (pv 5) (pv 3) (fun _ _=>rfl)) (pv 6) set_list))
   (pss_one (ps_ret (pe_ifExp (pt_cmpR op_ge (pe_ix (kix (K := K) rfl) (pe_ix (kix (K := K) rfl) (pv 5) (pv 3) (fun _ _=>rfl)) (pv 6) (fun _ _=>rfl)) pe_int (nomark _)) (pe_tup (pa_cons (pe_callTy (ktuple (K := K) rfl) (by rfl) T.n_tuple (by decide +kernel) (pa_cons (pe_ix (kix (K := K) rfl) (pv 5) pe_int (fun _ _=>rfl)) pa_nil)) (pa_cons (pe_callTy (ktuple (K := K) rfl) (by rfl) T.n_tuple (by decide +kernel) (pa_cons (pe_ix (kix (K := K) rfl) (pv 5) pe_int (fun _ _=>rfl)) pa_nil)) pa_nil))) pe_non))))))),fun ds Qd h=>?_⟩
 obtain ⟨t,b,k,o,hb,hk,rfl,q⟩ := h
 have w3 := o.w1
 have f3 := o.f1
 have l1 := hb.l1
 have l2 := hb.l2
 obtain ⟨f,s⟩ := k
 rcases mem_tok hk with ⟨e,i,hi⟩ | ⟨e,i,hi⟩
 ·have e : f = false := e
  subst e
  obtain ⟨x,hx⟩ := at_of_lt (xs := b.1) (i := i) (by rw [l1]; exact lt_of_at hi)
  have hj := ixN_at hx
  refine ws_seq<|ws_asg<|ew_cb<|ea_cons<|ew_op<|ew_op<|ew_var rfl<|ew_int<|op2_ix (x := tkD (false,s)) (d := .str "waits") rfl rfl<|ew_str<|op2_eq_str<|ea_nil<|opa_intB<|gw_name ?_
  rw [decide_eq_false (show ¬ ("waits" : Str) = "free" by decide)]
  show WS K _ [.sh (tblD t),.sh (bookD b),.sh (tkD (false,s)),.sh (.int 0),.un,.un,.un] _
  refine ws_seq<|ws_parZ<|zs_cons<|z_sh<|ew_op<|ew_var rfl<|ew_var rfl<|op2_ix (x := tblD t) (d := .lst (strsD t.waits)) rfl rfl<|zs_cons<|z_lst<|zs_cons<|z_new<|en_cb<|ea_cons<|ew_op<|ew_var rfl<|ew_int<|op2_ix (x := bookD b) (d := intsT b.1) rfl rfl<|ea_nil<|opn_list (x := intsT b.1) rfl ⟨trivial,zs_cons<|z_new<|en_cb<|ea_cons<|ew_op<|ew_var rfl<|ew_int<|op2_ix (x := bookD b) (d := intsT b.2) rfl rfl<|ea_nil<|opn_list (x := intsT b.2) rfl ⟨trivial,zs_nil ⟨by show 2 <= 100000; decide,zs_nil ⟨_,_,rfl,fun v0 S0 v S=>?_⟩⟩⟩⟩
  show WS K _ [.sh (tblD t),.sh (bookD b),.sh (tkD (false,s)),.sh (.int 0),tr K v0 S0 (.sh (.lst (strsD t.waits))),tr K v S (rowsT b),.un] _
  refine ws_leafZ (i := 4) rfl ?_
  show WS K _ [.sh (tblD t),.sh (bookD b),.sh (tkD (false,s)),.sh (.int 0),.sh (.lst (strsD t.waits)),tr K v S (rowsT b),.un] _
  refine ws_seq<|ws_asg<|ew_index<|ew_var rfl ⟨t.waits,rfl,ew_op<|ew_var rfl<|ew_int<|op2_ix (x := tkD (false,s)) (d := .str s) rfl rfl ⟨s,rfl,List.mem_of_getElem? hi,gw_name ?_⟩⟩
  rw [idx_at o.wn hi]
  show WS K _ [.sh (tblD t),.sh (bookD b),.sh (tkD (false,s)),.sh (.int 0),.sh (.lst (strsD t.waits)),tr K v S (rowsT b),.sh (.int (i : Nat))] _
  have P1 : EvP K (tOp (rIx K) (tVar 5) (tVar 3)) [.sh (tblD t),.sh (bookD b),.sh (tkD (false,s)),.sh (.int 0),.sh (.lst (strsD t.waits)),tr K v S (rowsT b),.sh (.int (i : Nat))] v ([] ++ [0]) := ep_ix (i := 5) (n := 0) (j := 0) rfl (ep_var rfl) rfl rfl (ew_var rfl ⟨rfl,rfl⟩)
  refine ws_seq<|ws_lsetZ (i := 5)<|ew_op<|ew_atZ (i := 5) (x := rowsT b) (p := [] ++ [0] ++ [i]) (d := .int x) rfl (ep_ix (i := 5) (n := (i : Nat)) rfl P1 rfl hj (ew_var rfl ⟨rfl,rfl⟩)) (at0 hx)<|ew_if<|et_test<|ew_op<|ew_var rfl<|ew_int<|op2_eq_int ⟨_,rfl,?_⟩
  rw [decide_eq_true (show (0 : Int) = 0 from rfl)]
  refine iteT<|ew_int<|op2_int ⟨v,S,rowsT b,[] ++ [0],_,i,rfl,P1,rfl,ew_var rfl ⟨rfl,(i : Nat),rfl,hj,fun S2=>?_⟩⟩
  rw [upd0]
  show WS K _ [.sh (tblD t),.sh (bookD b),.sh (tkD (false,s)),.sh (.int 0),.sh (.lst (strsD t.waits)),tr K v S2 (rowsT (b.1.set i (x + 1),b.2)),.sh (.int (i : Nat))] _
  refine ws_shareZ (i := 5) rfl ?_
  rw [rowsT_d]
  show WS K _ [.sh (tblD t),.sh (bookD b),.sh (tkD (false,s)),.sh (.int 0),.sh (.lst (strsD t.waits)),.sh (.lst [.lst ((b.1.set i (x + 1),b.2).1.map D.int),.lst ((b.1.set i (x + 1),b.2).2.map D.int)]),.sh (.int (i : Nat))] _
  have hset : (b.1.set i (x + 1))[i]? = some (x + 1) := List.getElem?_set_self (lt_of_at hx)
  refine ws_ret<|ew_if<|et_test<|ew_op<|ew_op<|ew_op<|ew_var rfl<|ew_var rfl<|op2_ix (d := .lst ((b.1.set i (x + 1)).map D.int)) rfl rfl<|ew_var rfl<|op2_ix (ds := (b.1.set i (x + 1)).map D.int) (d := .int (x + 1)) rfl (atI_nat (by rw [List.getElem?_map,hset]; rfl))<|ew_int<|op2_cmp ⟨_,rfl,?_⟩
  have hx0 := hb.p1 x (List.mem_of_getElem? hx)
  rw [hi_w o hi,inc_set 1 hx] at q
  rw [decide_eq_true (show x + 1 ≥ (0 : Int) by omega)]
  exact iteT<|ew_tup<|ea_cons<|ew_cb<|ea_cons<|ew_op<|ew_var rfl<|ew_int<|op2_ix (d := .lst ((b.1.set i (x + 1)).map D.int)) rfl rfl<|ea_nil<|opa_tuple rfl<|ea_cons<|ew_cb<|ea_cons<|ew_op<|ew_var rfl<|ew_int<|op2_ix (d := .lst (b.2.map D.int)) rfl rfl<|ea_nil<|opa_tuple rfl<|ea_nil ⟨by show 2 <= 100000; decide,q⟩
 ·have e : f = true := e
  subst e
  obtain ⟨x,hx⟩ := at_of_lt (xs := b.2) (i := i) (by rw [l2]; exact lt_of_at hi)
  have hj := ixN_at hx
  refine ws_seq<|ws_asg<|ew_cb<|ea_cons<|ew_op<|ew_op<|ew_var rfl<|ew_int<|op2_ix (x := tkD (true,s)) (d := .str "free") rfl rfl<|ew_str<|op2_eq_str<|ea_nil<|opa_intB<|gw_name ?_
  rw [decide_eq_true (show ("free" : Str) = "free" from rfl)]
  show WS K _ [.sh (tblD t),.sh (bookD b),.sh (tkD (true,s)),.sh (.int 1),.un,.un,.un] _
  refine ws_seq<|ws_parZ<|zs_cons<|z_sh<|ew_op<|ew_var rfl<|ew_var rfl<|op2_ix (x := tblD t) (d := .lst (strsD t.frees)) rfl rfl<|zs_cons<|z_lst<|zs_cons<|z_new<|en_cb<|ea_cons<|ew_op<|ew_var rfl<|ew_int<|op2_ix (x := bookD b) (d := intsT b.1) rfl rfl<|ea_nil<|opn_list (x := intsT b.1) rfl ⟨trivial,zs_cons<|z_new<|en_cb<|ea_cons<|ew_op<|ew_var rfl<|ew_int<|op2_ix (x := bookD b) (d := intsT b.2) rfl rfl<|ea_nil<|opn_list (x := intsT b.2) rfl ⟨trivial,zs_nil ⟨by show 2 <= 100000; decide,zs_nil ⟨_,_,rfl,fun v0 S0 v S=>?_⟩⟩⟩⟩
  show WS K _ [.sh (tblD t),.sh (bookD b),.sh (tkD (true,s)),.sh (.int 1),tr K v0 S0 (.sh (.lst (strsD t.frees))),tr K v S (rowsT b),.un] _
  refine ws_leafZ (i := 4) rfl ?_
  show WS K _ [.sh (tblD t),.sh (bookD b),.sh (tkD (true,s)),.sh (.int 1),.sh (.lst (strsD t.frees)),tr K v S (rowsT b),.un] _
  refine ws_seq<|ws_asg<|ew_index<|ew_var rfl ⟨t.frees,rfl,ew_op<|ew_var rfl<|ew_int<|op2_ix (x := tkD (true,s)) (d := .str s) rfl rfl ⟨s,rfl,List.mem_of_getElem? hi,gw_name ?_⟩⟩
  rw [idx_at o.fn hi]
  show WS K _ [.sh (tblD t),.sh (bookD b),.sh (tkD (true,s)),.sh (.int 1),.sh (.lst (strsD t.frees)),tr K v S (rowsT b),.sh (.int (i : Nat))] _
  have P1 : EvP K (tOp (rIx K) (tVar 5) (tVar 3)) [.sh (tblD t),.sh (bookD b),.sh (tkD (true,s)),.sh (.int 1),.sh (.lst (strsD t.frees)),tr K v S (rowsT b),.sh (.int (i : Nat))] v ([] ++ [1]) := ep_ix (i := 5) (n := 1) (j := 1) rfl (ep_var rfl) rfl rfl (ew_var rfl ⟨rfl,rfl⟩)
  refine ws_seq<|ws_lsetZ (i := 5)<|ew_op<|ew_atZ (i := 5) (x := rowsT b) (p := [] ++ [1] ++ [i]) (d := .int x) rfl (ep_ix (i := 5) (n := (i : Nat)) rfl P1 rfl hj (ew_var rfl ⟨rfl,rfl⟩)) (at1 hx)<|ew_if<|et_test<|ew_op<|ew_var rfl<|ew_int<|op2_eq_int ⟨_,rfl,?_⟩
  rw [decide_eq_false (show ¬ (1 : Int) = 0 by decide)]
  refine iteF<|ew_un<|ew_int<|op1_neg<|op2_int ⟨v,S,rowsT b,[] ++ [1],_,i,rfl,P1,rfl,ew_var rfl ⟨rfl,(i : Nat),rfl,hj,fun S2=>?_⟩⟩
  rw [upd1]
  show WS K _ [.sh (tblD t),.sh (bookD b),.sh (tkD (true,s)),.sh (.int 1),.sh (.lst (strsD t.frees)),tr K v S2 (rowsT (b.1,b.2.set i (x + (-1)))),.sh (.int (i : Nat))] _
  refine ws_shareZ (i := 5) rfl ?_
  rw [rowsT_d]
  show WS K _ [.sh (tblD t),.sh (bookD b),.sh (tkD (true,s)),.sh (.int 1),.sh (.lst (strsD t.frees)),.sh (.lst [.lst ((b.1,b.2.set i (x + (-1))).1.map D.int),.lst ((b.1,b.2.set i (x + (-1))).2.map D.int)]),.sh (.int (i : Nat))] _
  have hset : (b.2.set i (x + (-1)))[i]? = some (x + (-1)) := List.getElem?_set_self (lt_of_at hx)
  refine ws_ret<|ew_if<|et_test<|ew_op<|ew_op<|ew_op<|ew_var rfl<|ew_var rfl<|op2_ix (d := .lst ((b.2.set i (x + (-1))).map D.int)) rfl rfl<|ew_var rfl<|op2_ix (ds := (b.2.set i (x + (-1))).map D.int) (d := .int (x + (-1))) rfl (atI_nat (by rw [List.getElem?_map,hset]; rfl))<|ew_int<|op2_cmp ⟨_,rfl,?_⟩
  rw [hi_f o hi hx] at q
  by_cases c : x <= 0
  ·rw [if_pos c] at q
   rw [decide_eq_false (show ¬ x + -1 ≥ (0 : Int) by omega)]
   exact iteF<|ew_non q
  ·rw [if_neg c,inc_set (-1) hx] at q
   rw [decide_eq_true (show x + -1 ≥ (0 : Int) by omega)]
   exact iteT<|ew_tup<|ea_cons<|ew_cb<|ea_cons<|ew_op<|ew_var rfl<|ew_int<|op2_ix (d := .lst (b.1.map D.int)) rfl rfl<|ea_nil<|opa_tuple rfl<|ea_cons<|ew_cb<|ea_cons<|ew_op<|ew_var rfl<|ew_int<|op2_ix (d := .lst ((b.2.set i (x + -1)).map D.int)) rfl rfl<|ea_nil<|opa_tuple rfl<|ea_nil ⟨by show 2 <= 100000; decide,q⟩
end
end K65
namespace K65
open PySem PySem.Spec PyProof.Rows L2 DL SrtK
variable [TabL]
theorem mapI_inj : ∀ {xs ys : List Int},xs.map D.int = ys.map D.int -> xs = ys
 | [],[],_=>rfl
 | x :: xs,y :: ys,h=>by
  obtain ⟨h1,h2⟩ := List.cons.inj h
  rw [D.int.inj h1,mapI_inj h2]
theorem intsT_inj {xs ys : List Int} (h : intsT xs = intsT ys) : xs = ys := mapI_inj (D.tup.inj h)
theorem bookD_inj {a b : Bk} (h : bookD a = bookD b) : a = b := by
 unfold bookD at h
 have h := D.tup.inj h
 obtain ⟨h1,h2⟩ := List.cons.inj h
 exact Prod.ext (intsT_inj h1) (intsT_inj (List.cons.inj h2).1)
theorem pyI_book (b : Bk) : PyI 2 (bookD b) := by
 have pi : ∀ xs : List Int,PyI 1 (intsT xs) := fun xs=>.tup fun x hx=>by
  obtain ⟨i,_,rfl⟩ := List.mem_map.mp hx
  exact .int i
 exact .tup (mem2 (pi _) (pi _))
theorem hi_mem {b : Bk} {xs : List (Option Bk)} : bookD b ∈ xs.map hiD ↔ some b ∈ xs := by
 constructor
 ·intro h
  obtain ⟨z,hz,e⟩ := List.mem_map.mp h
  cases z with
  | none=>cases e
  | some c=>rw [<- bookD_inj e]; exact hz
 ·exact fun h=>List.mem_map.mpr ⟨_,h,rfl⟩
theorem tokens_len {t : TB} (o : t.Ok) : (tokens t).length <= 6 := by
 have := o.w1
 have := o.f1
 unfold tokens
 rw [List.length_append,List.length_map,List.length_map]; omega
section
variable {P : Program} {w : World} {K : PySem.W.Frag} {mg : Str -> Option Value} {base : Heap}
def T__law_tokens : List D -> (D -> Prop) -> Prop := fun ds Q=>∃ t : TB,t.Ok /\ ds = [tblD t] /\ Q (.lst ((tokens t).map tkD))
abbrev N__law_tokens : List Str := ["_law_table", "_law_name"]
theorem S__law_tokens : FnScope N__law_tokens ["_law_table"] (defScope s__law_tokens) := ⟨rfl,rfl,rfl,by decide +kernel,rfl,by decide +kernel,by decide +kernel⟩
theorem ok__law_tokens (T : TX P K mg) : FnB P w K mg base 1 "_law_tokens" ["_law_table"] (spP K T__law_tokens) := by
 obtain ⟨fd,F⟩ := T.F__law_tokens
 refine fn_P (k := 0) F T.g__law_tokens (fun _ _ _ _ _ _ us hl=>match us,hl with | [_],_=>rfl) S__law_tokens (fun ds Qd h=>by first | (obtain ⟨rfl,_⟩ := h; rfl) | (obtain ⟨_,rfl,_⟩ := h; rfl) | (obtain ⟨_,_,rfl,_⟩ := h; rfl) | (obtain ⟨_,_,_,rfl,_⟩ := h; rfl) | (obtain ⟨_,_,_,_,rfl,_⟩ := h; rfl) | (obtain ⟨_,_,_,_,_,rfl,_⟩ := h; rfl) | (obtain ⟨_,_,_,_,_,_,rfl,_⟩ := h; rfl) | (obtain ⟨_,_,_,_,_,_,_,rfl,_⟩ := h; rfl) | (obtain ⟨_,_,_,_,_,_,_,_,rfl,_⟩ := h; rfl) | (obtain ⟨_,_,_,_,_,_,_,_,_,rfl,_⟩ := h; rfl) | (obtain ⟨_,_,_,_,_,_,_,_,_,_,rfl,_⟩ := h; rfl) | (obtain ⟨_,_,_,_,_,_,_,_,_,_,_,rfl,_⟩ := h; rfl)) fun cdv A outer s H E hr=>⟨_,(pss_one (ps_ret (pe_op op_cat (pe_lc (own := [("_law_name",1)]) rfl S__law_tokens.nd (kwU (K := K) rfl (pe_ix (kix (K := K) rfl) (pv 0) pe_int (fun _ _=>rfl))) (blkOk_by (own := [("_law_name",1)]) (N := N__law_tokens) (sc := defScope s__law_tokens) (by decide +kernel)) (fun _ _ _ _ _=>(pg_name (i := 1) S__law_tokens.nd rfl (by first | exact .inl rfl | exact .inr rfl))) (fun _ _ _ _ _=>pts_nil) (fun _ _ _ _ _=>(pe_tup (pa_cons pe_str (pa_cons (pv 1) pa_nil))))) (pe_lc (own := [("_law_name",1)]) rfl S__law_tokens.nd (kwU (K := K) rfl (pe_ix (kix (K := K) rfl) (pv 0) pe_int (fun _ _=>rfl))) (blkOk_by (own := [("_law_name",1)]) (N := N__law_tokens) (sc := defScope s__law_tokens) (by decide +kernel)) (fun _ _ _ _ _=>(pg_name (i := 1) S__law_tokens.nd rfl (by first | exact .inl rfl | exact .inr rfl))) (fun _ _ _ _ _=>pts_nil) (fun _ _ _ _ _=>(pe_tup (pa_cons pe_str (pa_cons (pv 1) pa_nil)))))))),fun ds Qd h=>?_⟩
 obtain ⟨t,o,rfl,q⟩ := h
 have w3 := o.w1
 have f3 := o.f1
 refine ws_ret<|ew_new<|en_cat<|ew_new<|en_lcMt D.str t.waits (fun s=>tkD (false,s))<|ei_seq (.lst (strsD t.waits)) rfl<|ew_op<|ew_var rfl<|ew_int<|op2_ix (x := tblD t) (d := .lst (strsD t.waits)) rfl rfl ⟨rfl,rfl,rfl,by omega,fun s hs=>gv_name (by decide)<|ew_tup<|ea_cons<|ew_str<|ea_cons<|ew_var rfl<|ea_nil ⟨by show 2 <= 100000; decide,rfl,rfl⟩,?_⟩
 refine ew_new<|en_lcMt D.str t.frees (fun s=>tkD (true,s))<|ei_seq (.lst (strsD t.frees)) rfl<|ew_op<|ew_var rfl<|ew_int<|op2_ix (x := tblD t) (d := .lst (strsD t.frees)) rfl rfl ⟨rfl,rfl,rfl,by omega,fun s hs=>gv_name (by decide)<|ew_tup<|ea_cons<|ew_str<|ea_cons<|ew_var rfl<|ea_nil ⟨by show 2 <= 100000; decide,rfl,rfl⟩,⟨_,_,rfl,rfl,by rw [List.length_map,List.length_map]; omega,?_⟩⟩
 unfold tokens at q
 rw [List.map_append,List.map_map,List.map_map] at q
 exact q
def T__law_is_near : List D -> (D -> Prop) -> Prop := fun ds Q=>∃ (t : TB) (l h : Bk),t.Ok /\ BkOk t l /\ BkOk t h /\ ds = [tblD t,bookD l,bookD h] /\ Q (.bl (nearB l h))
abbrev N__law_is_near : List Str := ["_law_table", "_law_lower", "_law_higher_here", "_law_some", "_law_token"]
theorem S__law_is_near : FnScope N__law_is_near ["_law_table", "_law_lower", "_law_higher_here"] (defScope s__law_is_near) := ⟨rfl,rfl,rfl,by decide +kernel,rfl,by decide +kernel,by decide +kernel⟩
theorem ok__law_is_near (T : TX P K mg) : FnB P w K mg base 2 "_law_is_near" ["_law_table", "_law_lower", "_law_higher_here"] (spP K T__law_is_near) := by
 obtain ⟨fd,F⟩ := T.F__law_is_near
 have G__law_higher := ok__law_higher (P := P) (w := w) (base := base) T
 have G__law_tokens := ok__law_tokens (P := P) (w := w) (base := base) T
 refine fn_P (k := 1) F T.g__law_is_near (fun _ _ _ _ _ _ us hl=>match us,hl with | [_,_,_],_=>rfl) S__law_is_near (fun ds Qd h=>by first | (obtain ⟨rfl,_⟩ := h; rfl) | (obtain ⟨_,rfl,_⟩ := h; rfl) | (obtain ⟨_,_,rfl,_⟩ := h; rfl) | (obtain ⟨_,_,_,rfl,_⟩ := h; rfl) | (obtain ⟨_,_,_,_,rfl,_⟩ := h; rfl) | (obtain ⟨_,_,_,_,_,rfl,_⟩ := h; rfl) | (obtain ⟨_,_,_,_,_,_,rfl,_⟩ := h; rfl) | (obtain ⟨_,_,_,_,_,_,_,rfl,_⟩ := h; rfl) | (obtain ⟨_,_,_,_,_,_,_,_,rfl,_⟩ := h; rfl) | (obtain ⟨_,_,_,_,_,_,_,_,_,rfl,_⟩ := h; rfl) | (obtain ⟨_,_,_,_,_,_,_,_,_,_,rfl,_⟩ := h; rfl) | (obtain ⟨_,_,_,_,_,_,_,_,_,_,_,rfl,_⟩ := h; rfl)) fun cdv A outer s H E hr=>⟨_,(pss_cons (ps_setLc (i := 3) (own := [("_law_token",4)]) rfl S__law_is_near.nd rfl rfl (sw_true rfl rfl rfl (by decide +kernel)) (kwU (K := K) rfl (pe_callF G__law_tokens (hr.mono (by first | decide | omega)) (pa_cons (pv 0) pa_nil))) (blkOk_by (own := [("_law_token",4)]) (N := N__law_is_near) (sc := defScope s__law_is_near) (by decide +kernel)) (fun _ _ _ _ _=>(pg_name (i := 4) S__law_is_near.nd rfl (by first | exact .inl rfl | exact .inr rfl))) (fun _ _ _ _ _=>pts_nil) (fun _ _ _ _ _=>(pe_callF G__law_higher (hr.mono (by first | decide | omega)) (pa_cons (pv 0) (pa_cons (pv 1) (pa_cons (pv 4) pa_nil))))))
   (pss_one (ps_ret (L2.pe_or (pe_cmpR (keqD (K := K) rfl hr.units) (pv 1) (pv 2) (nomark _)) (pe_one (pe_cmpR (kinD (K := K) rfl (units65 hr)) (pv 2) (pv 3) (by rfl))))))),fun ds Qd h=>?_⟩
 obtain ⟨t,l,b,o,hl,hb,rfl,q⟩ := h
 have hw := near_law o hl hb
 have t6 := tokens_len o
 refine ws_seq<|ws_asg<|ew_new<|en_lcMt tkD (tokens t) (fun k=>hiD (hiB t l k))<|ei_seq (.lst ((tokens t).map tkD)) rfl<|ew_callP<|ea_cons<|ew_var rfl<|ea_nil ⟨t,o,rfl,rfl,rfl,rfl,by omega,fun k hk=>gv_name (by decide)<|ew_callP<|ea_cons<|ew_var rfl<|ea_cons<|ew_var rfl<|ea_cons<|ew_var rfl<|ea_nil ⟨t,l,k,o,hl,hk,rfl,rfl,rfl⟩,gw_name ?_⟩
 have hq : ((tokens t).map fun k=>hiD (hiB t l k)) = ((tokens t).map (hiB t l)).map hiD := by rw [List.map_map]; rfl
 rw [hq]
 refine ws_ret<|ew_orV<|ew_op<|ew_var rfl<|ew_var rfl<|op2_eqI (b := decide (l = b)) (pyI_book l) (pyI_book b) (by decide) (by decide) (by rw [decide_eq_true_iff]; exact ⟨fun e=>by rw [e],bookD_inj⟩) ⟨_,rfl,ite_b (fun c=>?_) (fun c=>?_)⟩
 ·rw [hw.mpr (.inl (of_decide_eq_true c))] at q
  exact q
 ·refine ew_op<|ew_var rfl<|ew_var rfl<|op2_inD (n := 2) (b := nearB l b) (pyI_book b) (fun y hy=>?_) (by decide) ?_ q
  ·obtain ⟨z,_,rfl⟩ := List.mem_map.mp hy
   cases z with
   | none=>exact .non
   | some c=>exact pyI_book c
  ·rw [hw,hi_mem]
   exact ⟨fun z=>z.resolve_left (of_decide_eq_false c),.inr⟩
def T__law_parts : List D -> (D -> Prop) -> Prop := fun ds Q=>∃ (t : TB) (b : Bk) (k : Tk) (m : Str × Str) (rows : List RowT),t.Ok /\ BkOk t b /\ k ∈ tokens t /\ (m,rows) ∈ t.cs /\ ds = [tblD t,bookD b,tkD k,comerD m] /\ ∀ r : Bool,(r = true ↔ Parts t b k m rows) -> Q (.bl r)
abbrev N__law_parts : List Str := ["_law_table", "_law_book", "_law_token", "_law_comer", "_law_higher_here", "_law_one_here", "_law_other"]
theorem S__law_parts : FnScope N__law_parts ["_law_table", "_law_book", "_law_token", "_law_comer"] (defScope s__law_parts) := ⟨rfl,rfl,rfl,by decide +kernel,rfl,by decide +kernel,by decide +kernel⟩
theorem ok__law_parts (T : TX P K mg) : FnB P w K mg base 3 "_law_parts" ["_law_table", "_law_book", "_law_token", "_law_comer"] (spP K T__law_parts) := by
 obtain ⟨fd,F⟩ := T.F__law_parts
 have G__law_higher := ok__law_higher (P := P) (w := w) (base := base) T
 have G__law_after := ok__law_after (P := P) (w := w) (base := base) T
 have G__law_is_near := ok__law_is_near (P := P) (w := w) (base := base) T
 refine fn_P (k := 2) F T.g__law_parts (fun _ _ _ _ _ _ us hl=>match us,hl with | [_,_,_,_],_=>rfl) S__law_parts (fun ds Qd h=>by first | (obtain ⟨rfl,_⟩ := h; rfl) | (obtain ⟨_,rfl,_⟩ := h; rfl) | (obtain ⟨_,_,rfl,_⟩ := h; rfl) | (obtain ⟨_,_,_,rfl,_⟩ := h; rfl) | (obtain ⟨_,_,_,_,rfl,_⟩ := h; rfl) | (obtain ⟨_,_,_,_,_,rfl,_⟩ := h; rfl) | (obtain ⟨_,_,_,_,_,_,rfl,_⟩ := h; rfl) | (obtain ⟨_,_,_,_,_,_,_,rfl,_⟩ := h; rfl) | (obtain ⟨_,_,_,_,_,_,_,_,rfl,_⟩ := h; rfl) | (obtain ⟨_,_,_,_,_,_,_,_,_,rfl,_⟩ := h; rfl) | (obtain ⟨_,_,_,_,_,_,_,_,_,_,rfl,_⟩ := h; rfl) | (obtain ⟨_,_,_,_,_,_,_,_,_,_,_,rfl,_⟩ := h; rfl)) fun cdv A outer s H E hr=>⟨_,(pss_cons (ps_set (i := 4) S__law_parts.nd rfl (by first | exact .inl rfl | exact .inr rfl) (pe_callF G__law_higher (hr.mono (by first | decide | omega)) (pa_cons (pv 0) (pa_cons (pv 1) (pa_cons (pv 2) pa_nil)))))
   (pss_cons (ps_if (pt_cmpR op_isN (pv 4) pe_non (nomark _)) (pss_one (ps_ret pe_bl)) pss_nil)
   (pss_cons (ps_par (i := 5) (j := 6) (by rfl) S__law_parts.nd rfl rfl (by decide) (by rfl) (by rfl) (pa_cons (pe_callF G__law_after (hr.mono (by first | decide | omega)) (pa_cons (pv 0) (pa_cons (pv 1) (pa_cons (pv 3) pa_nil)))) (pa_cons (pe_callF G__law_after (hr.mono (by first | decide | omega)) (pa_cons (pv 0) (pa_cons (pv 4) (pa_cons (pv 3) pa_nil)))) pa_nil)) (by rfl))
   (pss_one (ps_ret (pe_not (pe_callF G__law_is_near (hr.mono (by first | decide | omega)) (pa_cons (pv 0) (pa_cons (pv 5) (pa_cons (pv 6) pa_nil)))))))))),fun ds Qd h=>?_⟩
 obtain ⟨t,b,k,m,rows,o,hb,hk,hm,rfl,q⟩ := h
 refine ws_seq<|ws_asg<|ew_callP<|ea_cons<|ew_var rfl<|ea_cons<|ew_var rfl<|ea_cons<|ew_var rfl<|ea_nil ⟨t,b,k,o,hb,hk,rfl,gw_name ?_⟩
 show WS K _ [.sh (tblD t),.sh (bookD b),.sh (tkD k),.sh (comerD m),.sh (hiD (hiB t b k)),.un,.un] _
 refine ws_seq<|ws_if<|et_test<|ew_op<|ew_var rfl<|ew_non<|op2_isN ⟨_,rfl,?_⟩
 cases hh : hiB t b k with
 | none =>
  refine iteT<|ws_ret<|ew_bl<|q false ⟨fun z=>(nomatch z),?_⟩
  rintro ⟨h,_,_,e,_⟩
  rw [hh] at e; cases e
 | some h =>
  have hb2 := (hi_cases o hb hk hh).1
  obtain ⟨x,hx⟩ := aft_ex o hb hm
  obtain ⟨y,hy⟩ := aft_ex o hb2 hm
  refine iteF<|ws_next ?_
  refine ws_seq<|ws_par<|ea_cons<|ew_callP<|ea_cons<|ew_var rfl<|ea_cons<|ew_var rfl<|ea_cons<|ew_var rfl<|ea_nil ⟨t,b,m,rows,o,hb,hm,rfl,fun b1 e1=>ea_cons<|ew_callP<|ea_cons<|ew_var rfl<|ea_cons<|ew_var rfl<|ea_cons<|ew_var rfl<|ea_nil ⟨t,h,m,rows,o,hb2,hm,rfl,fun b2 e2=>ea_nil ⟨_,_,rfl,?_⟩⟩⟩
  rw [hx] at e1
  rw [hy] at e2
  cases e1; cases e2
  show WS K _ [.sh (tblD t),.sh (bookD b),.sh (tkD k),.sh (comerD m),.sh (bookD h),.sh (bookD x),.sh (bookD y)] _
  refine ws_ret<|ew_notV<|ew_callP<|ea_cons<|ew_var rfl<|ea_cons<|ew_var rfl<|ea_cons<|ew_var rfl<|ea_nil ⟨t,x,y,o,aft_ok o hb hm hx,aft_ok o hb2 hm hy,rfl,_,rfl,q _ ?_⟩
  constructor
  ·intro z
   exact ⟨h,x,y,hh,hx,hy,by rw [Bool.not_eq_true'] at z; exact z⟩
  ·rintro ⟨h',x',y',e1,e2,e3,e4⟩
   rw [hh] at e1; cases e1
   rw [hx] at e2; rw [hy] at e3
   cases e2; cases e3
   rw [e4]; rfl
end
end K65
namespace K65
open PySem PySem.Spec PyProof.Rows L2 DL SrtK
variable [TabL]
noncomputable def partsD (t : TB) (b : Bk) (k : Tk) (c : ComerT) : Bool := @decide (Parts t b k c.1 c.2) (Classical.propDecidable _)
theorem partsD_iff {t : TB} {b : Bk} {k : Tk} {c : ComerT} : partsD t b k c = true ↔ Parts t b k c.1 c.2 := by
 unfold partsD
 exact @decide_eq_true_iff _ (Classical.propDecidable _)
theorem partsD_of {t : TB} {b : Bk} {k : Tk} {c : ComerT} {r : Bool} (h : r = true ↔ Parts t b k c.1 c.2) : r = partsD t b k c := by
 rw [Bool.eq_iff_iff,h,partsD_iff]
structure Few (t : TB) (r : Option Int) (C : Bk -> Tk -> Prop) : Prop where
 ex : ∀ u,r = some u -> ∃ b k m rows,b.1 ∈ allC t.depth t.waits.length /\ b.2 ∈ allC t.depth t.frees.length /\ k ∈ tokens t /\ (m,rows) ∈ t.cs /\ Parts t b k m rows /\ unitsB b = u
 le : ∀ b k m rows,C b k -> (m,rows) ∈ t.cs -> Parts t b k m rows -> ∃ u,r = some u /\ u <= unitsB b
theorem Few.sub {t : TB} {r : Option Int} {C C' : Bk -> Tk -> Prop} (h : Few t r C) (s : ∀ b k,C' b k -> C b k) : Few t r C' := ⟨h.ex,fun b k m rows hc=>h.le b k m rows (s b k hc)⟩
def allB (t : TB) (b : Bk) (k : Tk) : Prop := b.1 ∈ allC t.depth t.waits.length /\ b.2 ∈ allC t.depth t.frees.length /\ k ∈ tokens t
section
variable {P : Program} {w : World} {K : PySem.W.Frag} {mg : Str -> Option Value} {base : Heap}
def T__law_fewest : List D -> (D -> Prop) -> Prop := fun ds Q=>∃ t : TB,t.Ok /\ ds = [tblD t] /\ ∀ r : Option Int,Few t r (allB t) -> Q (optI r)
abbrev N__law_fewest : List Str := ["_law_table", "_law_lowest", "_law_waits", "_law_frees", "_law_units", "_law_token", "_law_book", "_law_comer"]
theorem S__law_fewest : FnScope N__law_fewest ["_law_table"] (defScope s__law_fewest) := ⟨rfl,rfl,rfl,by decide +kernel,rfl,by decide +kernel,by decide +kernel⟩
theorem ok__law_fewest (T : TX P K mg) : FnB P w K mg base 4 "_law_fewest" ["_law_table"] (spP K T__law_fewest) := by
 obtain ⟨fd,F⟩ := T.F__law_fewest
 have G__law_tuples := ok__law_tuples (P := P) (w := w) (base := base) T
 have G__law_tokens := ok__law_tokens (P := P) (w := w) (base := base) T
 have G__law_parts := ok__law_parts (P := P) (w := w) (base := base) T
 refine fn_P (k := 3) F T.g__law_fewest (fun _ _ _ _ _ _ us hl=>match us,hl with | [_],_=>rfl) S__law_fewest (fun ds Qd h=>by first | (obtain ⟨rfl,_⟩ := h; rfl) | (obtain ⟨_,rfl,_⟩ := h; rfl) | (obtain ⟨_,_,rfl,_⟩ := h; rfl) | (obtain ⟨_,_,_,rfl,_⟩ := h; rfl) | (obtain ⟨_,_,_,_,rfl,_⟩ := h; rfl) | (obtain ⟨_,_,_,_,_,rfl,_⟩ := h; rfl) | (obtain ⟨_,_,_,_,_,_,rfl,_⟩ := h; rfl) | (obtain ⟨_,_,_,_,_,_,_,rfl,_⟩ := h; rfl) | (obtain ⟨_,_,_,_,_,_,_,_,rfl,_⟩ := h; rfl) | (obtain ⟨_,_,_,_,_,_,_,_,_,rfl,_⟩ := h; rfl) | (obtain ⟨_,_,_,_,_,_,_,_,_,_,rfl,_⟩ := h; rfl) | (obtain ⟨_,_,_,_,_,_,_,_,_,_,_,rfl,_⟩ := h; rfl)) fun cdv A outer s H E hr=>⟨_,(pss_cons (ps_set (i := 1) S__law_fewest.nd rfl (by first | exact .inl rfl | exact .inr rfl) pe_non)
   (pss_cons (ps_for PassesOwn.never rfl (kwU (K := K) rfl (pe_callF G__law_tuples (hr.mono (by first | decide | omega)) (pa_cons (pe_ix (kix (K := K) rfl) (pv 0) pe_int (fun _ _=>rfl)) (pa_cons (pe_callB (klen (K := K) rfl) (by rfl) T.n_len (by decide +kernel) (pa_cons (pe_ix (kix (K := K) rfl) (pv 0) pe_int (fun _ _=>rfl)) pa_nil)) pa_nil)))) (pg_name (i := 2) S__law_fewest.nd rfl (by first | exact .inl rfl | exact .inr rfl))
   (pss_one (ps_for PassesOwn.never rfl (kwU (K := K) rfl (pe_callF G__law_tuples (hr.mono (by first | decide | omega)) (pa_cons (pe_ix (kix (K := K) rfl) (pv 0) pe_int (fun _ _=>rfl)) (pa_cons (pe_callB (klen (K := K) rfl) (by rfl) T.n_len (by decide +kernel) (pa_cons (pe_ix (kix (K := K) rfl) (pv 0) pe_int (fun _ _=>rfl)) pa_nil)) pa_nil)))) (pg_name (i := 3) S__law_fewest.nd rfl (by first | exact .inl rfl | exact .inr rfl))
   (pss_cons (ps_set (i := 4) S__law_fewest.nd rfl (by first | exact .inl rfl | exact .inr rfl) (pe_op op_add (pe_callB (SumT.ksumT rfl (K := K) rfl) (by rfl) T.n_sum (by decide +kernel) (pa_cons (pv 2) pa_nil)) (pe_callB (SumT.ksumT rfl (K := K) rfl) (by rfl) T.n_sum (by decide +kernel) (pa_cons (pv 3) pa_nil))))
   (pss_one (ps_if (PW.pt (pw_or (pt_cmpR op_isN (pv 1) pe_non (nomark _)) (pw_or1 (pt_cmpR op_lt (pv 4) (pv 1) (nomark _))))) (pss_one (ps_for PassesOwn.never rfl (kwU (K := K) rfl (pe_callF G__law_tokens (hr.mono (by first | decide | omega)) (pa_cons (pv 0) pa_nil))) (pg_name (i := 5) S__law_fewest.nd rfl (by first | exact .inl rfl | exact .inr rfl))
   (pss_cons (ps_set (i := 6) S__law_fewest.nd rfl (by first | exact .inl rfl | exact .inr rfl) (pe_tup (pa_cons (pv 2) (pa_cons (pv 3) pa_nil))))
   (pss_one (ps_if (pt_val (pe_callB (kany rfl (K := K) rfl) (by rfl) T.n_any (by decide +kernel) (pa_cons (pe_either (pe_lock (pe_lc (own := [("_law_comer",7)]) rfl S__law_fewest.nd (pi_keys (pe_ix (kix (K := K) rfl) (pv 0) pe_int (fun _ _=>rfl))) (blkOk_by (own := [("_law_comer",7)]) (N := N__law_fewest) (sc := defScope s__law_fewest) (by decide +kernel)) (fun _ _ _ _ _=>(pg_name (i := 7) S__law_fewest.nd rfl (by first | exact .inl rfl | exact .inr rfl))) (fun _ _ _ _ _=>pts_nil) (fun _ _ _ _ _=>(pe_callF G__law_parts (hr.mono (by first | decide | omega)) (pa_cons (pv 0) (pa_cons (pv 6) (pa_cons (pv 5) (pa_cons (pv 7) pa_nil)))))))) (pe_lc (own := [("_law_comer",7)]) rfl S__law_fewest.nd (pi_keys (pe_ix (kix (K := K) rfl) (pv 0) pe_int (fun _ _=>rfl))) (blkOk_by (own := [("_law_comer",7)]) (N := N__law_fewest) (sc := defScope s__law_fewest) (by decide +kernel)) (fun _ _ _ _ _=>(pg_name (i := 7) S__law_fewest.nd rfl (by first | exact .inl rfl | exact .inr rfl))) (fun _ _ _ _ _=>pts_nil) (fun _ _ _ _ _=>(pe_callF G__law_parts (hr.mono (by first | decide | omega)) (pa_cons (pv 0) (pa_cons (pv 6) (pa_cons (pv 5) (pa_cons (pv 7) pa_nil)))))))) pa_nil))) (pss_one (ps_set (i := 1) S__law_fewest.nd rfl (by first | exact .inl rfl | exact .inr rfl) (pv 4))) pss_nil))))) pss_nil))))))
   (pss_one (ps_ret (pv 1))))),fun ds Qd h=>?_⟩
 obtain ⟨t,o,rfl,q⟩ := h
 have w3 := o.w1
 have f3 := o.f1
 have hc4 := o.len
 have d3 := o.d1
 have hw64 := allC_le o t.waits.length (by omega)
 have hf64 := allC_le o t.frees.length (by omega)
 have rw' := fun {row : List Int} (h : row ∈ allC t.depth t.waits.length)=>allC_row t.depth h
 have rf' := fun {row : List Int} (h : row ∈ allC t.depth t.frees.length)=>allC_row t.depth h
 refine ws_seq<|ws_asg<|ew_non<|gw_name ?_
 show WS K _ [.sh (tblD t),.sh .non,.un,.un,.un,.un,.un,.un] _
 refine ws_seq<|ws_for<|ei_seq (.lst ((allC t.depth t.waits.length).map intsT)) rfl<|ew_callP<|ea_cons<|ew_op<|ew_var rfl<|ew_int<|op2_ix (x := tblD t) (d := .int (t.depth : Nat)) rfl rfl<|ea_cons<|ew_cb<|ea_cons<|ew_op<|ew_var rfl<|ew_int<|op2_ix (x := tblD t) (d := .lst (strsD t.waits)) rfl rfl<|ea_nil<|opa_len rfl<|ea_nil ⟨t.depth,t.waits.length,by rw [strsD_len],by omega,by omega,rfl,fun i ρ=>∃ (r : Option Int) (s2 s3 s4 s5 s6 : Sl),ρ = [.sh (tblD t),.sh (optI r),s2,s3,s4,s5,s6,.un] /\ Few t r (fun b k=>b.1 ∈ (allC t.depth t.waits.length).take i /\ b.2 ∈ allC t.depth t.frees.length /\ k ∈ tokens t),⟨none,_,_,_,_,_,rfl,fun u e=>(nomatch e),fun b k m rows hc=>by rw [List.take_zero] at hc; exact (nomatch hc.1)⟩,?_,?_⟩
 ·rintro i d ρ' hd ⟨r,s2,s3,s4,s5,s6,rfl,hF⟩
  rw [List.getElem?_map] at hd
  obtain ⟨ws,hws,rfl⟩ := Option.map_eq_some_iff.mp hd
  have hwm := List.mem_of_getElem? hws
  refine gw_name ?_
  show WS K _ [.sh (tblD t),.sh (optI r),.sh (intsT ws),s3,s4,s5,s6,.un] _
  refine ws_for<|ei_seq (.lst ((allC t.depth t.frees.length).map intsT)) rfl<|ew_callP<|ea_cons<|ew_op<|ew_var rfl<|ew_int<|op2_ix (x := tblD t) (d := .int (t.depth : Nat)) rfl rfl<|ea_cons<|ew_cb<|ea_cons<|ew_op<|ew_var rfl<|ew_int<|op2_ix (x := tblD t) (d := .lst (strsD t.frees)) rfl rfl<|ea_nil<|opa_len rfl<|ea_nil ⟨t.depth,t.frees.length,by rw [strsD_len],by omega,by omega,rfl,fun j ρ=>∃ (r : Option Int) (s3 s4 s5 s6 : Sl),ρ = [.sh (tblD t),.sh (optI r),.sh (intsT ws),s3,s4,s5,s6,.un] /\ Few t r (fun b k=>(b.1 ∈ (allC t.depth t.waits.length).take i /\ b.2 ∈ allC t.depth t.frees.length /\ k ∈ tokens t) \/ (b.1 = ws /\ b.2 ∈ (allC t.depth t.frees.length).take j /\ k ∈ tokens t)),⟨r,_,_,_,_,rfl,hF.sub fun b k hc=>hc.resolve_right fun z=>by rw [List.take_zero] at z; exact (nomatch z.2.1)⟩,?_,?_⟩
  ·clear hF r
   rintro j d ρ' hd ⟨r,s3,s4,s5,s6,rfl,hF⟩
   rw [List.getElem?_map] at hd
   obtain ⟨fs,hfs,rfl⟩ := Option.map_eq_some_iff.mp hd
   have hfm := List.mem_of_getElem? hfs
   have hbk : BkOk t (ws,fs) := ⟨(rw' hwm).1,(rf' hfm).1,fun x hx=>((rw' hwm).2 x hx).1,fun x hx=>((rf' hfm).2 x hx).1⟩
   refine gw_name<|ws_seq<|ws_asg<|ew_op<|ew_cb<|ea_cons<|ew_var rfl<|ea_nil<|opa_sumT<|ew_cb<|ea_cons<|ew_var rfl<|ea_nil<|opa_sumT<|op2_int<|gw_name ?_
   show WS K _ [.sh (tblD t),.sh (optI r),.sh (intsT ws),.sh (intsT fs),.sh (.int (unitsB (ws,fs))),s5,s6,.un] _
   have step : ∀ {r' : Option Int},Few t r' (fun b k=>((b.1 ∈ (allC t.depth t.waits.length).take i /\ b.2 ∈ allC t.depth t.frees.length /\ k ∈ tokens t) \/ (b.1 = ws /\ b.2 ∈ (allC t.depth t.frees.length).take j /\ k ∈ tokens t)) \/ (b = (ws,fs) /\ k ∈ tokens t)) -> Few t r' (fun b k=>(b.1 ∈ (allC t.depth t.waits.length).take i /\ b.2 ∈ allC t.depth t.frees.length /\ k ∈ tokens t) \/ (b.1 = ws /\ b.2 ∈ (allC t.depth t.frees.length).take (j + 1) /\ k ∈ tokens t)) := fun h=>h.sub fun b k hc=>by
    rcases hc with hc | ⟨h1,h2,h3⟩
    ·exact .inl (.inl hc)
    ·rw [take_snoc hfs] at h2
     rcases List.mem_append.mp h2 with h2 | h2
     ·exact .inl (.inr ⟨h1,h2,h3⟩)
     ·exact .inr ⟨Prod.ext h1 (List.mem_singleton.mp h2),h3⟩
   refine ws_if<|et_weak (Q₁ := fun b ρ1=>ρ1 = [.sh (tblD t),.sh (optI r),.sh (intsT ws),.sh (intsT fs),.sh (.int (unitsB (ws,fs))),s5,s6,.un] /\ (b = true -> ∀ u,r = some u -> unitsB (ws,fs) < u) /\ (b = false -> ∃ u,r = some u /\ u <= unitsB (ws,fs))) ?_ ?_
   ·cases r with
    | none=>exact et_or<|et_test<|ew_op<|ew_var rfl<|ew_non<|op2_isN ⟨_,rfl,iteT ⟨rfl,fun _ u e=>(nomatch e),fun z=>(nomatch z)⟩⟩
    | some u =>
     refine et_or<|et_test<|ew_op<|ew_var rfl<|ew_non<|op2_isN ⟨_,rfl,iteF<|et_test<|ew_op<|ew_var rfl<|ew_var rfl<|op2_cmp ⟨_,rfl,rfl,fun z u' e=>?_,fun z=>⟨u,rfl,?_⟩⟩⟩
     ·cases e; exact of_decide_eq_true z
     ·have := of_decide_eq_false z; omega
   rintro b ρ1 ⟨rfl,hb1,hb2⟩
   refine ite_b (fun hbt=>?_) (fun hbf=>?_)
   ·have hlt := hb1 hbt
    refine ws_for<|ei_seq (.lst ((tokens t).map tkD)) rfl<|ew_callP<|ea_cons<|ew_var rfl<|ea_nil ⟨t,o,rfl,rfl,fun l ρ=>∃ (r : Option Int) (s5 s6 : Sl),ρ = [.sh (tblD t),.sh (optI r),.sh (intsT ws),.sh (intsT fs),.sh (.int (unitsB (ws,fs))),s5,s6,.un] /\ (∀ u,r = some u -> unitsB (ws,fs) <= u) /\ Few t r (fun b k=>((b.1 ∈ (allC t.depth t.waits.length).take i /\ b.2 ∈ allC t.depth t.frees.length /\ k ∈ tokens t) \/ (b.1 = ws /\ b.2 ∈ (allC t.depth t.frees.length).take j /\ k ∈ tokens t)) \/ (b = (ws,fs) /\ k ∈ (tokens t).take l)),⟨r,_,_,rfl,fun u e=>Int.le_of_lt (hlt u e),hF.sub fun b k hc=>hc.resolve_right fun z=>by rw [List.take_zero] at z; exact (nomatch z.2)⟩,?_,?_⟩
    ·clear hF hlt hb1 hb2 r
     rintro l d ρ' hd ⟨r,s5,s6,rfl,hle,hF⟩
     rw [List.getElem?_map] at hd
     obtain ⟨k,hk,rfl⟩ := Option.map_eq_some_iff.mp hd
     have hkm := List.mem_of_getElem? hk
     refine gw_name<|ws_seq<|ws_asg<|ew_tup<|ea_cons<|ew_var rfl<|ea_cons<|ew_var rfl<|ea_nil ⟨by show 2 <= 100000; decide,gw_name ?_⟩
     show WS K _ [.sh (tblD t),.sh (optI r),.sh (intsT ws),.sh (intsT fs),.sh (.int (unitsB (ws,fs))),.sh (tkD k),.sh (bookD (ws,fs)),.un] _
     have ek : ((t.cs.map pairP).map fun p : List Key × D=>D.tup (p.1.map kD)) = t.cs.map fun c=>comerD c.1 := by rw [List.map_map]; rfl
     refine ws_if<|et_B<|ew_cb<|ea_cons<|ew_new<|en_lcE2 (wi := iKeys) (d0 := .dt (t.cs.map pairP)) (held_ix (i := 0) rfl rfl rfl) rfl we_keysT rfl (by rw [List.length_map,List.length_map]; omega) (fun n acc=>acc = ((t.cs.take n).map (partsD t (ws,fs) k)).map D.bl) rfl ?_ ?_
     ·intro n d acc hd hp
      rw [ek,List.getElem?_map] at hd
      obtain ⟨c,hc,rfl⟩ := Option.map_eq_some_iff.mp hd
      refine gv_name (by decide)<|et_yes ⟨rfl,iteT<|ew_callP<|ea_cons<|ew_var rfl<|ea_cons<|ew_var rfl<|ea_cons<|ew_var rfl<|ea_cons<|ew_var rfl<|ea_nil ⟨t,(ws,fs),k,c.1,c.2,o,hbk,hkm,List.mem_of_getElem? hc,rfl,fun b hb=>⟨rfl,?_⟩⟩⟩
      rw [hp,partsD_of hb,take_snoc hc,List.map_append,List.map_append]; rfl
     ·intro acc hp
      rw [hp,List.length_map,List.length_map,List.take_length]
      refine ea_nil<|opa_any ⟨_,rfl,?_⟩
      refine ite_b (fun ha=>?_) (fun ha=>?_)
      ·refine ws_asg<|ew_var rfl<|gw_name ⟨some (unitsB (ws,fs)),_,_,rfl,fun u e=>by cases e; exact Int.le_refl _,⟨fun u e=>?_,fun b k' m rows hc hm hp=>?_⟩⟩
       ·cases e
        rw [List.any_map] at ha
        obtain ⟨c,hc,hcp⟩ := List.any_eq_true.mp ha
        exact ⟨(ws,fs),k,c.1,c.2,hwm,hfm,hkm,hc,partsD_iff.mp hcp,rfl⟩
       ·rcases hc with hc | ⟨rfl,hc⟩
        ·obtain ⟨u,e,hu⟩ := hF.le b k' m rows (.inl hc) hm hp
         exact ⟨_,rfl,Int.le_trans (hle u e) hu⟩
        ·exact ⟨_,rfl,Int.le_refl _⟩
      ·refine ws_next ⟨r,_,_,rfl,hle,⟨hF.ex,fun b k' m rows hc hm hp=>?_⟩⟩
       rcases hc with hc | ⟨rfl,hc⟩
       ·exact hF.le b k' m rows (.inl hc) hm hp
       ·rw [take_snoc hk] at hc
        rcases List.mem_append.mp hc with hc | hc
        ·exact hF.le _ k' m rows (.inr ⟨rfl,hc⟩) hm hp
        ·rw [List.mem_singleton.mp hc] at hp
         rw [List.any_map] at ha
         have := List.any_eq_false.mp ha (m,rows) hm
         exact absurd (partsD_iff.mpr hp) this
    ·rintro ρ' ⟨r,s5,s6,rfl,hle,hF⟩
     rw [List.length_map,List.take_length] at hF
     exact ⟨r,_,_,_,_,rfl,step hF⟩
   ·obtain ⟨u,e,hu⟩ := hb2 hbf
    refine ws_next ⟨r,_,_,_,_,rfl,step ⟨hF.ex,fun b k m rows hc hm hp=>?_⟩⟩
    rcases hc with hc | ⟨rfl,hc⟩
    ·exact hF.le b k m rows hc hm hp
    ·exact ⟨u,e,hu⟩
  ·rintro ρ' ⟨r,s3,s4,s5,s6,rfl,hF⟩
   rw [List.length_map,List.take_length] at hF
   refine ⟨r,_,_,_,_,_,rfl,hF.sub fun b k hc=>?_⟩
   obtain ⟨h1,h2,h3⟩ := hc
   rw [take_snoc hws] at h1
   rcases List.mem_append.mp h1 with h1 | h1
   ·exact .inl ⟨h1,h2,h3⟩
   ·exact .inr ⟨List.mem_singleton.mp h1,h2,h3⟩
 ·rintro ρ' ⟨r,s2,s3,s4,s5,s6,rfl,hF⟩
  rw [List.length_map,List.take_length] at hF
  exact ws_ret<|ew_var rfl<|q r hF
end
end K65
namespace K65
open PySem PySem.Spec PyProof.Rows L2 DL SrtK
variable [TabL]
def NoPart (t : TB) : Prop := ∀ m rows,(m,rows) ∈ t.cs -> ∀ c k,k ∈ tokens t -> CaseT t c k m -> ¬ Parts t c k m rows
theorem pos2 {t : TB} (o : t.Ok) {b : Bk} (h : BkOk t b) : Pos2 b := ⟨h.p1,h.p2,by have := o.w1; have := h.l1; omega,by have := o.f1; have := h.l2; omega⟩
section
variable {P : Program} {w : World} {K : PySem.W.Frag} {mg : Str -> Option Value} {base : Heap}
def T__law_never_farther : TVp := fun ds Q=>∃ (t : TB) (ps : List (List Key × D)),t.Ok /\ Held t ps /\ t.cs ≠ [] /\ NoPart t /\ ds = [tblD t,tabI t ps] /\ Q (.bl true)
abbrev N__law_never_farther : List Str := ["_law_stream_here", "_law_table", "_law_made_here", "_law_waits", "_law_frees", "_law_books", "_law_k", "_law_more", "_law_gap", "_law_comer", "_law_later", "_law_name", "_law_book"]
theorem S__law_never_farther : FnScope N__law_never_farther ["_law_stream_here", "_law_table", "_law_made_here"] (defScope s__law_never_farther) := ⟨rfl,rfl,rfl,by decide +kernel,rfl,by decide +kernel,by decide +kernel⟩
theorem ok__law_never_farther (T : TX P K mg) : FnX P w K mg base 6 "_law_never_farther" ["_law_stream_here", "_law_table", "_law_made_here"] (spU K (TV 40 T__law_never_farther)) := by
 obtain ⟨fd,F⟩ := T.F__law_never_farther
 have G__law_draw := ok__law_draw (P := P) (w := w) (base := base) T
 have G_apart := ok_apart (P := P) (w := w) (base := base) T
 have G__law_pick := ok__law_pick (P := P) (w := w) (base := base) T
 have M_Table_after := ok_Table_after (P := P) (w := w) (base := base) T
 refine fn_VX (k := 5) F T.g__law_never_farther (fun _ _ _ _ _ _ us hl=>match us,hl with | [_,_,_],_=>rfl) S__law_never_farther (fun ds Qd h=>by first | (obtain ⟨rfl,_⟩ := h; rfl) | (obtain ⟨_,rfl,_⟩ := h; rfl) | (obtain ⟨_,_,rfl,_⟩ := h; rfl) | (obtain ⟨_,_,_,rfl,_⟩ := h; rfl) | (obtain ⟨_,_,_,_,rfl,_⟩ := h; rfl) | (obtain ⟨_,_,_,_,_,rfl,_⟩ := h; rfl) | (obtain ⟨_,_,_,_,_,_,rfl,_⟩ := h; rfl) | (obtain ⟨_,_,_,_,_,_,_,rfl,_⟩ := h; rfl) | (obtain ⟨_,_,_,_,_,_,_,_,rfl,_⟩ := h; rfl) | (obtain ⟨_,_,_,_,_,_,_,_,_,rfl,_⟩ := h; rfl) | (obtain ⟨_,_,_,_,_,_,_,_,_,_,rfl,_⟩ := h; rfl) | (obtain ⟨_,_,_,_,_,_,_,_,_,_,_,rfl,_⟩ := h; rfl)) fun cdv A outer s H W hcd hr tk po=>⟨_,(pss_cons (ps_par (i := 3) (j := 4) (by rfl) S__law_never_farther.nd rfl rfl (by decide) (by rfl) (by rfl) (pa_cons (pe_ix (kix (K := K) rfl) (pv 1) pe_int (fun _ _=>rfl)) (pa_cons (pe_ix (kix (K := K) rfl) (pv 1) pe_int (fun _ _=>rfl)) pa_nil)) (by rfl))
   (pss_cons (ps_set (i := 5) S__law_never_farther.nd rfl (by first | exact .inl rfl | exact .inr rfl) (pe_lst pa_nil))
   (pss_cons (ps_for po rfl (pi_range1 (by rfl) T.n_range (pa_cons pe_int pa_nil)) (pg_name (i := 6) S__law_never_farther.nd rfl (by first | exact .inl rfl | exact .inr rfl))
   (pss_cons (ps_set (i := 7) S__law_never_farther.nd rfl (by first | exact .inl rfl | exact .inr rfl) (pe_callTy (ktuple (K := K) rfl) (by rfl) T.n_tuple (by decide +kernel) (pa_cons (pe_lc (own := [("_law_name",11)]) rfl S__law_never_farther.nd (kwU (K := K) rfl (pv 3)) (blkOk_by (own := [("_law_name",11)]) (N := N__law_never_farther) (sc := defScope s__law_never_farther) (by decide +kernel)) (fun _ _ _ _ _=>(pg_name (i := 11) S__law_never_farther.nd rfl (by first | exact .inl rfl | exact .inr rfl))) (fun _ _ _ _ _=>pts_nil) (fun _ _ _ _ _=>(pe_callX G__law_draw takesN (E := E0) (fun _ _ _ _ h=>h) (hr.mono (by first | decide | omega)) (pa_cons (pv 0) (pa_cons pe_int pa_nil))))) pa_nil)))
   (pss_one (ps_expr (kbm (K := K) (id := "") rfl (pe_bm PySem.F.plainAttrs_list PySem.F.slot_list_append PySem.F.type_list_append mt_append (pv 5) (pa_cons (pe_tup (pa_cons (pv 7) (pa_cons (pe_callTy (ktuple (K := K) rfl) (by rfl) T.n_tuple (by decide +kernel) (pa_cons (pe_lc (own := [("_law_name",11)]) rfl S__law_never_farther.nd (kwU (K := K) rfl (pv 4)) (blkOk_by (own := [("_law_name",11)]) (N := N__law_never_farther) (sc := defScope s__law_never_farther) (by decide +kernel)) (fun _ _ _ _ _=>(pg_name (i := 11) S__law_never_farther.nd rfl (by first | exact .inl rfl | exact .inr rfl))) (fun _ _ _ _ _=>pts_nil) (fun _ _ _ _ _=>(pe_callX G__law_draw takesN (E := E0) (fun _ _ _ _ h=>h) (hr.mono (by first | decide | omega)) (pa_cons (pv 0) (pa_cons pe_int pa_nil))))) pa_nil)) pa_nil))) pa_nil)))))))
   (pss_cons (ps_set (i := 8) S__law_never_farther.nd rfl (by first | exact .inl rfl | exact .inr rfl) (pe_callX G_apart tk (fun _ _ _ _ h=>h) (hr.mono (by first | decide | omega)) (pa_cons (pe_ix (kix (K := K) rfl) (pv 5) pe_int (fun _ _=>rfl)) (pa_cons (pe_ix (kix (K := K) rfl) (pv 5) pe_int (fun _ _=>rfl)) pa_nil))))
   (pss_cons (ps_for po rfl (pi_range1 (by rfl) T.n_range (pa_cons pe_int pa_nil)) (pg_name (i := 6) S__law_never_farther.nd rfl (by first | exact .inl rfl | exact .inr rfl))
   (pss_cons (ps_set (i := 9) S__law_never_farther.nd rfl (by first | exact .inl rfl | exact .inr rfl) (pe_callX G__law_pick tk (fun _ _ _ _ h=>h) (hr.mono (by first | decide | omega)) (pa_cons (pv 0) (pa_cons (pe_callB (SrtK.cr_sortKD rfl) (by rfl) T.n_sorted (by decide +kernel) (pa_cons (pe_ix (kix (K := K) rfl) (pv 1) pe_int (fun _ _=>rfl)) pa_nil)) pa_nil))))
   (pss_cons (ps_setLc (i := 5) (own := [("_law_book",12)]) rfl S__law_never_farther.nd rfl rfl (sw_true rfl rfl rfl (by decide +kernel)) (kwU (K := K) rfl (pv 5)) (blkOk_by (own := [("_law_book",12)]) (N := N__law_never_farther) (sc := defScope s__law_never_farther) (by decide +kernel)) (fun _ _ _ _ _=>(pg_name (i := 12) S__law_never_farther.nd rfl (by first | exact .inl rfl | exact .inr rfl))) (fun _ _ _ _ _=>pts_nil) (fun _ _ _ _ _=>(kmethX (K := K) rfl M_Table_after takesN (E := E0) (fun _ _ _ _ h=>h) (hr.mono (by first | decide | omega)) (pv 2) (pa_cons (pv 12) (pa_cons (pv 9) pa_nil)))))
   (pss_cons (ps_set (i := 10) S__law_never_farther.nd rfl (by first | exact .inl rfl | exact .inr rfl) (pe_callX G_apart tk (fun _ _ _ _ h=>h) (hr.mono (by first | decide | omega)) (pa_cons (pe_ix (kix (K := K) rfl) (pv 5) pe_int (fun _ _=>rfl)) (pa_cons (pe_ix (kix (K := K) rfl) (pv 5) pe_int (fun _ _=>rfl)) pa_nil))))
   (pss_cons (ps_if (pt_cmpR op_gt (pv 10) (pv 8) (nomark _)) (pss_one (ps_ret pe_bl)) pss_nil)
   (pss_one (ps_set (i := 8) S__law_never_farther.nd rfl (by first | exact .inl rfl | exact .inr rfl) (pv 10))))))))
   (pss_one (ps_ret pe_bl))))))),fun a p n ds Qd hb h=>?_⟩
 obtain ⟨t,ps,o,hh,hne,hno,rfl,q⟩ := h
 have w3 := o.w1
 have f3 := o.f1
 have hc4 := o.len
 have hc0 : 0 < t.cs.length := List.length_pos_iff.mpr hne
 have apt : ∀ {b c : Bk} {Q : Int -> Prop} {X : Str -> Str -> D -> Prop},BkOk t b -> BkOk t c -> Q (distB b c) -> ApartRes (bookD b) (bookD c) Q X := fun {b c Q X} hb hc q=>.inr ⟨b,pos2 o hb,rfl,.inr ⟨c,intsT c.1,intsT c.2,pos2 o hc,rfl,rfl,.inr ⟨.inl rfl,by rw [hb.l1,hc.l1],by rw [hb.l2,hc.l2],q⟩⟩⟩
 refine ws_seq<|ws_par<|ea_cons<|ew_op<|ew_var rfl<|ew_int<|op2_ix (x := tblD t) (d := .lst (strsD t.waits)) rfl rfl<|ea_cons<|ew_op<|ew_var rfl<|ew_int<|op2_ix (x := tblD t) (d := .lst (strsD t.frees)) rfl rfl<|ea_nil ⟨_,_,rfl,?_⟩
 show WS K _ [.own a (stD p),.sh (tblD t),.sh (tabI t ps),.sh (.lst (strsD t.waits)),.sh (.lst (strsD t.frees)),.un,.un,.un,.un,.un,.un,.un,.un] _
 refine ws_seq<|ws_asgN<|en_lst<|ea_nil ⟨by show 0 <= 100000; decide,fun pb=>?_⟩
 show WS K _ [.own a (stD p),.sh (tblD t),.sh (tabI t ps),.sh (.lst (strsD t.waits)),.sh (.lst (strsD t.frees)),.own pb (.lst []),.un,.un,.un,.un,.un,.un,.un] _
 refine ws_seq<|ws_for<|ei_range1<|ea_cons<|ew_int<|ea_nil ⟨_,rfl,by decide,by decide,fun i ρ=>∃ (p' : P3) (bs : List Bk) (s6 s7 : Sl),ρ = [.own a (stD p'),.sh (tblD t),.sh (tabI t ps),.sh (.lst (strsD t.waits)),.sh (.lst (strsD t.frees)),.own pb (.lst (bs.map bookD)),s6,s7,.un,.un,.un,.un,.un] /\ bs.length = i /\ (∀ b ∈ bs,BkOk t b) /\ Bud (n + 8 + 6 * (2 - i)) p',⟨p,[],_,_,rfl,rfl,fun b hb=>(nomatch hb),hb.less (by omega)⟩,?_,?_⟩
 ·rintro i d ρ' hd ⟨p',bs,s6,s7,rfl,hbl,hbs,hb'⟩
  have hi2 : i < 2 := by
   have := (List.getElem?_eq_some_iff.mp hd).1
   rw [List.length_map,List.length_range] at this
   exact this
  refine gw_name ?_
  show WS K _ [.own a (stD p'),.sh (tblD t),.sh (tabI t ps),.sh (.lst (strsD t.waits)),.sh (.lst (strsD t.frees)),.own pb (.lst (bs.map bookD)),.sh d,s7,.un,.un,.un,.un,.un] _
  refine ws_seq<|ws_asg<|ew_cb<|ea_cons<|ew_new<|en_lcE<|ei_seq (.lst (strsD t.waits)) rfl<|ew_var rfl ⟨rfl,by rw [strsD_len]; omega,fun j acc ρ=>∃ (p'' : P3) (xs : List Int),ρ = [.own a (stD p''),.sh (tblD t),.sh (tabI t ps),.sh (.lst (strsD t.waits)),.sh (.lst (strsD t.frees)),.own pb (.lst (bs.map bookD)),.sh d,s7,.un,.un,.un,.un,.un] /\ acc = xs.map D.int /\ xs.length = j /\ (∀ x ∈ xs,0 <= x) /\ Bud (n + 8 + 6 * (2 - (i + 1)) + 3 + (3 - j)) p'',⟨p',[],rfl,rfl,rfl,fun x hx=>(nomatch hx),hb'.less (by omega)⟩,?_,?_⟩
  ·rintro j e acc ρ0 he ⟨p'',xs,e0,rfl,hj,hx,hb''⟩
   have hlt := (List.getElem?_eq_some_iff.mp he).1
   rw [strsD_len] at hlt
   rw [e0]
   refine gv_name (by decide)<|et_yes<|iteT<|ew_callV (n + 8 + 6 * (2 - (i + 1)) + 3 + (3 - (j + 1))) rfl<|ea_cons<|ew_int<|ea_nil ⟨p'',rfl,hb''.less (by omega),4,rfl,by decide,by decide,fun r hr0 hr1 p2 hb2=>?_⟩
   refine ⟨p2,xs ++ [r],rfl,by rw [List.map_append]; rfl,by rw [List.length_append,hj]; rfl,fun x hxx=>?_,hb2⟩
   rcases List.mem_append.mp hxx with z | z
   ·exact hx x z
   ·rw [List.mem_singleton.mp z]; exact hr0
  ·rintro acc ρ0 ⟨p'',xs,e0,rfl,hj,hx,hb''⟩
   rw [strsD_len] at hj
   rw [e0]
   refine ea_nil<|opa_tuple rfl<|gw_name ?_
   show WS K _ [.own a (stD p''),.sh (tblD t),.sh (tabI t ps),.sh (.lst (strsD t.waits)),.sh (.lst (strsD t.frees)),.own pb (.lst (bs.map bookD)),.sh d,.sh (intsT xs),.un,.un,.un,.un,.un] _
   refine ws_drop<|ew_append (a := pb) rfl<|ew_tup<|ea_cons<|ew_var rfl<|ea_cons<|ew_cb<|ea_cons<|ew_new<|en_lcE<|ei_seq (.lst (strsD t.frees)) rfl<|ew_var rfl ⟨rfl,by rw [strsD_len]; omega,fun j acc ρ=>∃ (p'' : P3) (ys : List Int),ρ = [.own a (stD p''),.sh (tblD t),.sh (tabI t ps),.sh (.lst (strsD t.waits)),.sh (.lst (strsD t.frees)),.own pb (.lst (bs.map bookD)),.sh d,.sh (intsT xs),.un,.un,.un,.un,.un] /\ acc = ys.map D.int /\ ys.length = j /\ (∀ x ∈ ys,0 <= x) /\ Bud (n + 8 + 6 * (2 - (i + 1)) + (3 - j)) p'',⟨p'',[],rfl,rfl,rfl,fun x hx=>(nomatch hx),hb''.less (by omega)⟩,?_,?_⟩
   ·rintro j e acc ρ0 he ⟨p'',ys,e0,rfl,hj,hy,hb''⟩
    have hlt := (List.getElem?_eq_some_iff.mp he).1
    rw [strsD_len] at hlt
    rw [e0]
    refine gv_name (by decide)<|et_yes<|iteT<|ew_callV (n + 8 + 6 * (2 - (i + 1)) + (3 - (j + 1))) rfl<|ea_cons<|ew_int<|ea_nil ⟨p'',rfl,hb''.less (by omega),4,rfl,by decide,by decide,fun r hr0 hr1 p2 hb2=>?_⟩
    refine ⟨p2,ys ++ [r],rfl,by rw [List.map_append]; rfl,by rw [List.length_append,hj]; rfl,fun x hxx=>?_,hb2⟩
    rcases List.mem_append.mp hxx with z | z
    ·exact hy x z
    ·rw [List.mem_singleton.mp z]; exact hr0
   ·rintro acc ρ0 ⟨p3,ys,e0,rfl,hj2,hy,hb3⟩
    rw [strsD_len] at hj2
    rw [e0]
    refine ea_nil<|opa_tuple rfl<|ea_nil ⟨by show 2 <= 100000; decide,bs.map bookD,rfl,by rw [List.length_map]; omega,?_⟩
    refine ⟨p3,bs ++ [(xs,ys)],.sh d,.sh (intsT xs),by rw [List.map_append]; rfl,by rw [List.length_append,hbl]; rfl,fun b hbm=>?_,hb3.less (by omega)⟩
    rcases List.mem_append.mp hbm with z | z
    ·exact hbs b z
    ·rw [List.mem_singleton.mp z]; exact ⟨hj,hj2,hx,hy⟩
 ·rintro ρ' ⟨p',bs,s6,s7,rfl,hbl,hbs,hb'⟩
  rw [List.length_map,List.length_range] at hbl hb'
  obtain ⟨b0,c0,rfl⟩ : ∃ b c,bs = [b,c] := by
   match bs,hbl with
   | [b,c],_=>exact ⟨b,c,rfl⟩
  have hb0 := hbs b0 List.mem_cons_self
  have hc0' := hbs c0 (List.mem_cons_of_mem _ List.mem_cons_self)
  refine ws_share (i := 5) rfl ?_
  show WS K _ [.own a (stD p'),.sh (tblD t),.sh (tabI t ps),.sh (.lst (strsD t.waits)),.sh (.lst (strsD t.frees)),.sh (.lst [bookD b0,bookD c0]),s6,s7,.un,.un,.un,.un,.un] _
  refine ws_seq<|ws_asg<|ew_callS<|ea_cons<|ew_op<|ew_var rfl<|ew_int<|op2_ix (x := .lst [bookD b0,bookD c0]) (d := bookD b0) rfl rfl<|ea_cons<|ew_op<|ew_var rfl<|ew_int<|op2_ix (x := .lst [bookD b0,bookD c0]) (d := bookD c0) rfl rfl<|ea_nil ⟨_,_,rfl,okBk o hb0,okBk o hc0',apt hb0 hc0'<|gw_name ?_⟩
  show WS K _ [.own a (stD p'),.sh (tblD t),.sh (tabI t ps),.sh (.lst (strsD t.waits)),.sh (.lst (strsD t.frees)),.sh (.lst [bookD b0,bookD c0]),s6,s7,.sh (.int (distB b0 c0)),.un,.un,.un,.un] _
  refine ws_seq<|ws_for<|ei_range1<|ea_cons<|ew_int<|ea_nil ⟨_,rfl,by decide,by decide,fun i ρ=>∃ (p' : P3) (b c : Bk) (s6 s9 s10 : Sl),ρ = [.own a (stD p'),.sh (tblD t),.sh (tabI t ps),.sh (.lst (strsD t.waits)),.sh (.lst (strsD t.frees)),.sh (.lst [bookD b,bookD c]),s6,s7,.sh (.int (distB b c)),s9,s10,.un,.un] /\ BkOk t b /\ BkOk t c /\ Bud (n + (8 - i)) p',⟨p',b0,c0,_,_,_,rfl,hb0,hc0',hb'.less (by omega)⟩,?_,?_⟩
  ·clear hb0 hc0' hbs hbl hb' p'
   rintro i d ρ' hd ⟨p',b,c,s6,s9,s10,rfl,hb0,hc0',hb'⟩
   have hi8 : i < 8 := by
    have := (List.getElem?_eq_some_iff.mp hd).1
    rw [List.length_map,List.length_range] at this
    exact this
   have hks : ((t.cs.map pairP).map (·.1)) = t.cs.map fun c=>keyP c.1 := by rw [List.map_map]; rfl
   refine gw_name<|ws_seq<|ws_asg<|ew_pick (n + (8 - (i + 1))) rfl<|ea_cons<|ew_new<|en_cb<|ea_cons<|ew_op<|ew_var rfl<|ew_int<|op2_ix (x := tblD t) (d := .dt (t.cs.map pairP)) rfl rfl<|ea_nil<|opn_sortKD (b := false) (sr := [false]) (fun k hk=>?_)<|ea_nil ⟨p',rfl,hb'.less (by omega),_,(srtK ((t.cs.map pairP).map (·.1))).map fun k=>D.tup (k.map kD),rfl,rfl,?_,?_,fun d2 hd2 p6 hb6=>gw_name ?_⟩
   ·rw [hks] at hk
    obtain ⟨c,_,rfl⟩ := List.mem_map.mp hk
    rfl
   ·rw [List.length_map,srtK_len,hks,List.length_map]; exact hc0
   ·rw [List.length_map,srtK_len,hks,List.length_map]; omega
   rw [hks,comersL_d] at hd2
   obtain ⟨m,hmm,rfl⟩ := List.mem_map.mp hd2
   obtain ⟨rows,hm⟩ := comersL_mem.mp hmm
   obtain ⟨k1,k2⟩ := comer_ok o hm
   obtain ⟨b',eb⟩ := aft_ex o hb0 hm
   obtain ⟨c',ec⟩ := aft_ex o hc0' hm
   have ob := aft_ok o hb0 hm eb
   have oc := aft_ok o hc0' hm ec
   show WS K _ [.own a (stD p6),.sh (tblD t),.sh (tabI t ps),.sh (.lst (strsD t.waits)),.sh (.lst (strsD t.frees)),.sh (.lst [bookD b,bookD c]),.sh d,s7,.sh (.int (distB b c)),.sh (comerD m),s10,.un,.un] _
   have hF : ∀ y ∈ [b,c],BkOk t y /\ t.aft y m rows = some ((t.aft y m rows).getD y) := fun y hy=>by
    rcases List.mem_cons.mp hy with rfl | hy
    ·rw [eb]; exact ⟨hb0,rfl⟩
    ·rw [List.mem_singleton.mp hy,ec]; exact ⟨hc0',rfl⟩
   refine ws_seq<|ws_asg<|ew_new<|en_lcMt bookD [b,c] (fun y=>bookD ((t.aft y m rows).getD y))<|ei_seq (.lst [bookD b,bookD c]) rfl<|ew_var rfl ⟨rfl,rfl,rfl,by show 2 <= 90000; decide,fun y hy=>gv_name (by decide)<|ew_methS<|ew_var rfl ⟨_,rfl,rfl,ea_cons<|ew_var rfl<|ea_cons<|ew_var rfl<|ea_nil ⟨t,ps,bookD y,comerD m,o,hh,rfl,okBk o (hF y hy).1,.inr ⟨y,(hF y hy).1.bookD,k1,k2,aftG o hm (hF y hy).2 ⟨rfl,rfl⟩⟩⟩⟩,gw_name ?_⟩
   have e2 : ([b,c].map fun y=>bookD ((t.aft y m rows).getD y)) = [bookD b',bookD c'] := by
    show [bookD ((t.aft b m rows).getD b),bookD ((t.aft c m rows).getD c)] = _
    rw [eb,ec]; rfl
   rw [e2]
   show WS K _ [.own a (stD p6),.sh (tblD t),.sh (tabI t ps),.sh (.lst (strsD t.waits)),.sh (.lst (strsD t.frees)),.sh (.lst [bookD b',bookD c']),.sh d,s7,.sh (.int (distB b c)),.sh (comerD m),s10,.un,.un] _
   refine ws_seq<|ws_asg<|ew_callS<|ea_cons<|ew_op<|ew_var rfl<|ew_int<|op2_ix (x := .lst [bookD b',bookD c']) (d := bookD b') rfl rfl<|ea_cons<|ew_op<|ew_var rfl<|ew_int<|op2_ix (x := .lst [bookD b',bookD c']) (d := bookD c') rfl rfl<|ea_nil ⟨_,_,rfl,okBk o ob,okBk o oc,apt ob oc<|gw_name ?_⟩
   show WS K _ [.own a (stD p6),.sh (tblD t),.sh (tabI t ps),.sh (.lst (strsD t.waits)),.sh (.lst (strsD t.frees)),.sh (.lst [bookD b',bookD c']),.sh d,s7,.sh (.int (distB b c)),.sh (comerD m),.sh (.int (distB b' c')),.un,.un] _
   have hle : distB b' c' <= distB b c := by
    have h0 := distB_pos b c
    have := never_far o hm (hno m rows hm) (distB b c).toNat hb0 hc0' (by omega) eb ec
    omega
   refine ws_seq<|ws_ifn (C := True) (et_test<|ew_op<|ew_var rfl<|ew_var rfl<|op2_cmp ⟨_,rfl,?_⟩) fun _=>?_
   ·rw [decide_eq_false (show ¬ distB b' c' > distB b c by omega)]
    exact ⟨rfl,trivial⟩
   exact ws_asg<|ew_var rfl<|gw_name ⟨p6,b',c',.sh d,.sh (comerD m),.sh (.int (distB b' c')),rfl,ob,oc,hb6⟩
  ·rintro ρ' ⟨p',b,c,s6,s9,s10,rfl,_,_,hb'⟩
   exact ws_ret<|ew_bl ⟨⟨p',rfl,hb'.less (by omega)⟩,q⟩
end
end K65
namespace K65
open PySem PySem.Spec PyProof.Rows L2 DL SrtK
variable [TabL]
abbrev N_law : List Str := ["_law_script", "_law_turn", "_law_stream_here", "_law_table", "_law_k", "_law_made_here", "_law_fewest_here", "_law_fault", "_law_book", "_law_twin", "_law_part"]
theorem S_law : FnScope N_law ["_law_script"] (defScope s_law) := ⟨rfl,rfl,rfl,by decide +kernel,rfl,by decide +kernel,by decide +kernel⟩
theorem name_py {x : Str} (h : isNameS x = true) : PyData.strOk x = true := by
 unfold isNameS at h
 rw [Bool.and_eq_true,Bool.and_eq_true] at h
 have h2 := List.all_eq_true.mp h.2.2
 show x.cps.all _ = true
 rw [<- Array.all_toList,List.all_eq_true]
 intro c hc
 have := of_decide_eq_true (h2 c hc)
 have hs : ∀ c ∈ signs.cps.toList,decide (c < 0x110000) = true := by decide +kernel
 exact hs c this
theorem side_py {x : Str} (h : sideS x = true) : PyData.strOk x = true := by
 have hs : ∀ y ∈ (["person", "place"] : List Str),PyData.strOk y = true := by decide +kernel
 exact hs x (of_decide_eq_true h)
theorem pyI_tok {t : TB} (o : t.Ok) {k : Tk} (hk : k ∈ tokens t) : PyI 1 (tkD k) := by
 have hw : ∀ b : Bool,PyData.strOk (if b = true then "free" else "waits" : Str) = true := by decide +kernel
 refine .tup (mem2 (.str (hw k.1)) (.str ?_))
 rcases mem_tok hk with ⟨_,i,hi⟩ | ⟨_,i,hi⟩
 ·exact name_py (o.wi _ (List.mem_of_getElem? hi))
 ·exact name_py (o.fi _ (List.mem_of_getElem? hi))
theorem pyI_comer {t : TB} (o : t.Ok) {m : Str × Str} {rows : List RowT} (hm : (m,rows) ∈ t.cs) : PyI 1 (comerD m) := .tup (mem2 (.str (side_py (o.side _ hm))) (.str (name_py (o.name _ hm))))
theorem PyI.more {n : Nat} {x : D} (h : PyI n x) : PyI (n + 1) x := by
 induction h with
 | non=>exact .non
 | int i=>exact .int i
 | str h=>exact .str h
 | lst _ ih=>exact .lst ih
 | tup _ ih=>exact .tup ih
theorem first_least {α : Type} {k : α -> Int} {p : α -> Bool} : ∀ {xs : List α} {c c' : α},xs.Pairwise (fun a b=>decide (k a <= k b) = true) -> xs.find? p = some c -> c' ∈ xs -> p c' = true -> k c <= k c'
 | x :: xs,c,c',hp,hf,hm,hc=>by
  obtain ⟨h1,h2⟩ := List.pairwise_cons.mp hp
  by_cases e : p x = true
  ·rw [List.find?_cons_of_pos e] at hf
   cases hf
   rcases List.mem_cons.mp hm with rfl | hm
   ·exact Int.le_refl _
   ·exact of_decide_eq_true (h1 c' hm)
  ·rw [List.find?_cons_of_neg e] at hf
   rcases List.mem_cons.mp hm with rfl | hm
   ·exact absurd hc e
   ·exact first_least h2 hf hm hc
theorem sorted_cases (t : TB) : (casesL t).Pairwise (fun a b=>decide (unitsB a.1 <= unitsB b.1) = true) := List.pairwise_mergeSort (le := fun a b : Case=>decide (unitsB a.1 <= unitsB b.1)) (fun a b c h g=>decide_eq_true (Int.le_trans (of_decide_eq_true h) (of_decide_eq_true g))) (fun a b=>by
 rcases Int.le_total (unitsB a.1) (unitsB b.1) with h | h
 ·rw [decide_eq_true h]; rfl
 ·rw [decide_eq_true h,Bool.or_true]) (casesU t)
theorem to_case {t : TB} (o : t.Ok) {b : Bk} {k : Tk} {m : Str × Str} {rows : List RowT} (h1 : b.1 ∈ allC t.depth t.waits.length) (h2 : b.2 ∈ allC t.depth t.frees.length) (hk : k ∈ tokens t) (hm : (m,rows) ∈ t.cs) (hp : Parts t b k m rows) : ∃ c ∈ casesL t,partB t c = true /\ unitsB c.1 <= unitsB b := by
 obtain ⟨a1,a2⟩ := allC_row _ h1
 obtain ⟨b1,b2⟩ := allC_row _ h2
 obtain ⟨c,hc,hp2,hu⟩ := part_core o ⟨a1,b1,fun x hx=>(a2 x hx).1,fun x hx=>(b2 x hx).1⟩ hk hm hp
 have hcm : ((c,k,m) : Case) ∈ casesL t := mem_cases.mpr ⟨hc,rows,hm⟩
 exact ⟨(c,k,m),hcm,(partB_iff o hcm hm).mpr hp2,hu⟩
theorem judged_none {t : TB} (o : t.Ok) (h : judgedL t = none) {r : Option Int} (hF : Few t r (allB t)) : r = none /\ NoPart t := by
 have hn : ∀ c ∈ casesL t,¬ partB t c = true := fun c hc=>List.find?_eq_none.mp h c hc
 constructor
 ·cases r with
  | none=>rfl
  | some u =>
   obtain ⟨b,k,m,rows,h1,h2,hk,hm,hp,_⟩ := hF.ex u rfl
   obtain ⟨c,hc,hp2,_⟩ := to_case o h1 h2 hk hm hp
   exact absurd hp2 (hn c hc)
 ·intro m rows hm c k _ hc hp
  have hcm : ((c,k,m) : Case) ∈ casesL t := mem_cases.mpr ⟨hc,rows,hm⟩
  exact hn _ hcm ((partB_iff o hcm hm).mpr hp)
theorem judged_some {t : TB} (o : t.Ok) {c : Case} (h : judgedL t = some c) {r : Option Int} (hF : Few t r (allB t)) : ∃ rows,(c.2.2,rows) ∈ t.cs /\ BkOk t c.1 /\ c.2.1 ∈ tokens t /\ Parts t c.1 c.2.1 c.2.2 rows /\ r = some (unitsB c.1) := by
 have hcm := List.mem_of_find?_eq_some h
 have hp : partB t c = true := List.find?_some h
 obtain ⟨hct,rows,hm⟩ := mem_cases.mp hcm
 obtain ⟨hb,hk,_,h1,h2⟩ := CaseT.bk o hct
 have hpp := (partB_iff o hcm hm).mp hp
 obtain ⟨u,e,hu⟩ := hF.le c.1 c.2.1 c.2.2 rows ⟨h1,h2,hk⟩ hm hpp
 refine ⟨rows,hm,hb,hk,hpp,?_⟩
 subst e
 obtain ⟨b,k,m,rows2,g1,g2,hk2,hm2,hp2,rfl⟩ := hF.ex u rfl
 obtain ⟨c',hc',hp',hu'⟩ := to_case o g1 g2 hk2 hm2 hp2
 have := first_least (k := fun c : Case=>unitsB c.1) (sorted_cases t) h hc' hp'
 congr 1
 have : unitsB c.1 <= unitsB c'.1 := this
 omega
section
variable {P : Program} {w : World} {K : PySem.W.Frag} {mg : Str -> Option Value} {base : Heap}
def TLaw : List D -> (D -> Prop) -> Prop := fun ds Q=>∃ ns : List Int,ds = [.scr ns] /\ Q (.bl true)
variable [LamF K mg base]
theorem ok_law {f : Addr} {fd : FuncData} (F : FunD K "law" "law" (defArgs s_law) (defBody s_law) (defScope s_law) [] [] f fd) (T : TX P K mg) {c : Addr} (hc : fd.code = .ref c) : FnOk P w K mg base CX0 10 f fd ["_law_script"] (spP K TLaw) := by
 have G__law_stream := ok__law_stream (P := P) (w := w) (base := base) T
 have G__law_drawn := ok__law_drawn (P := P) (w := w) (base := base) T
 have G__law_draw := ok__law_draw (P := P) (w := w) (base := base) T
 have G__law_bent := ok__law_bent (P := P) (w := w) (base := base) T
 have G__law_made := ok__law_made (P := P) (w := w) (base := base) T
 have G__law_fewest := ok__law_fewest (P := P) (w := w) (base := base) T
 have G_judged := ok_judged (P := P) (w := w) (base := base) T
 have G__law_tokens := ok__law_tokens (P := P) (w := w) (base := base) T
 have G__law_parts := ok__law_parts (P := P) (w := w) (base := base) T
 have G__law_never_farther := ok__law_never_farther (P := P) (w := w) (base := base) T
 refine fn_PC (k := 9) F S_law (fun ds Qd h=>by obtain ⟨ns,rfl,_⟩ := h; rfl) fun cdv A outer s H E hcd hr=>?_
 refine ⟨_,(pss_cons (ps_for PassesOwn.never rfl (pi_range1 (by rfl) T.n_range (pa_cons pe_int pa_nil)) (pg_name (i := 1) S_law.nd rfl (by first | exact .inl rfl | exact .inr rfl))
   (pss_cons (ps_set (i := 2) S_law.nd rfl (by first | exact .inl rfl | exact .inr rfl) (pe_callF G__law_stream (hr.mono (by first | decide | omega)) (pa_cons (pv 0) (pa_cons (pv 1) pa_nil))))
   (pss_cons (ps_set (i := 3) S_law.nd rfl (by first | exact .inl rfl | exact .inr rfl) (pe_callX G__law_drawn takesN (E := E0) (fun _ _ _ _ h=>h) (hr.mono (by first | decide | omega)) (pa_cons (pv 2) (pa_cons pe_int pa_nil))))
   (pss_cons (ps_if (pt_cmpR op_gt (pe_op op_add (pe_op op_add (pe_callB (klen (K := K) rfl) (by rfl) T.n_len (by decide +kernel) (pa_cons (pe_ix (kix (K := K) rfl) (pv 3) pe_int (fun _ _=>rfl)) pa_nil)) (pe_callB (klen (K := K) rfl) (by rfl) T.n_len (by decide +kernel) (pa_cons (pe_ix (kix (K := K) rfl) (pv 3) pe_int (fun _ _=>rfl)) pa_nil))) (pe_ix (kix (K := K) rfl) (pv 3) pe_int (fun _ _=>rfl))) pe_int (nomark _)) (pss_one (ps_set (i := 3) S_law.nd rfl (by first | exact .inl rfl | exact .inr rfl) (pe_callX G__law_drawn takesN (E := E0) (fun _ _ _ _ h=>h) (hr.mono (by first | decide | omega)) (pa_cons (pv 2) (pa_cons pe_int pa_nil))))) pss_nil)
   (pss_cons (ps_for PassesOwn.never rfl (pi_range1 (by rfl) T.n_range (pa_cons (pe_callX G__law_draw takesN (E := E0) (fun _ _ _ _ h=>h) (hr.mono (by first | decide | omega)) (pa_cons (pv 2) (pa_cons pe_int pa_nil))) pa_nil)) (pg_name (i := 4) S_law.nd rfl (by first | exact .inl rfl | exact .inr rfl))
   (pss_one (ps_set (i := 3) S_law.nd rfl (by first | exact .inl rfl | exact .inr rfl) (pe_callX G__law_bent takesN (E := E0) (fun _ _ _ _ h=>h) (hr.mono (by first | decide | omega)) (pa_cons (pv 2) (pa_cons (pv 3) pa_nil))))))
   (pss_cons (ps_par (i := 5) (j := 6) (by rfl) S_law.nd rfl rfl (by decide) (by rfl) (by rfl) (pa_cons (pe_callF G__law_made (hr.mono (by first | decide | omega)) (pa_cons (pv 3) pa_nil)) (pa_cons (pe_callF G__law_fewest (hr.mono (by first | decide | omega)) (pa_cons (pv 3) pa_nil)) pa_nil)) (by rfl))
   (pss_cons (ps_set (i := 7) S_law.nd rfl (by first | exact .inl rfl | exact .inr rfl) (pe_callX G_judged takesN (E := E0) (fun _ _ _ _ h=>h) (hr.mono (by first | decide | omega)) (pa_cons (pv 5) pa_nil)))
   (pss_cons (ps_if (pt_cmpR op_ne (pe_cmpR op_isN (pv 7) pe_non (nomark _)) (pe_cmpR op_isN (pv 6) pe_non (nomark _)) (nomark _)) (pss_one (ps_ret pe_bl)) pss_nil)
   (pss_one (ps_if (pt_cmpR op_notN (pv 7) pe_non (nomark _)) (pss_cons (ps_set (i := 8) S_law.nd rfl (by first | exact .inl rfl | exact .inr rfl) (kfld (K := K) rfl (pv 7) rfl))
   (pss_cons (ps_if (PW.pt (pw_or (pt_not (pt_val (pe_callB (kisi (K := K) rfl) (by rfl) T.n_isinstance (by decide +kernel) (pa_cons (pv 8) (pa_cons (pe_bltn (v := .ty "tuple") (by rfl) T.n_tuple (by decide +kernel) rfl) pa_nil))))) (pw_or1 (pt_not (pt_val (pe_callB (kall rfl (K := K) rfl) (by rfl) T.n_all (by decide +kernel) (pa_cons (pe_lc (own := [("_law_part",10)]) rfl S_law.nd (kwU (K := K) rfl (pv 8)) (blkOk_by (own := [("_law_part",10)]) (N := N_law) (sc := defScope s_law) (by decide +kernel)) (fun _ _ _ _ _=>(pg_name (i := 10) S_law.nd rfl (by first | exact .inl rfl | exact .inr rfl))) (fun _ _ _ _ _=>pts_nil) (fun _ _ _ _ _=>(pe_callB (kisi (K := K) rfl) (by rfl) T.n_isinstance (by decide +kernel) (pa_cons (pv 10) (pa_cons (pe_bltn (v := .ty "tuple") (by rfl) T.n_tuple (by decide +kernel) rfl) pa_nil))))) pa_nil))))))) (pss_one (ps_ret pe_bl)) pss_nil)
   (pss_cons (ps_if (PW.pt (pw_or (pt_cmpR (knotinD (K := K) rfl (units65 hr)) (kfld (K := K) rfl (pv 7) rfl) (pe_callF G__law_tokens (hr.mono (by first | decide | omega)) (pa_cons (pv 3) pa_nil)) (by rfl)) (pw_or1 (pt_cmp (pc_dnotin (hu_of hr) (kfld (K := K) rfl (pv 7) rfl) (pe_ix (kix (K := K) rfl) (pv 3) pe_int (fun _ _=>rfl))))))) (pss_one (ps_ret pe_bl)) pss_nil)
   (pss_cons (ps_if (pt_cmpR op_ne (pe_op op_add (pe_callB (SumT.ksumT rfl (K := K) rfl) (by rfl) T.n_sum (by decide +kernel) (pa_cons (pe_ix (kix (K := K) rfl) (pv 8) pe_int (fun _ _=>rfl)) pa_nil)) (pe_callB (SumT.ksumT rfl (K := K) rfl) (by rfl) T.n_sum (by decide +kernel) (pa_cons (pe_ix (kix (K := K) rfl) (pv 8) pe_int (fun _ _=>rfl)) pa_nil))) (pv 6) (nomark _)) (pss_one (ps_ret pe_bl)) pss_nil)
   (pss_cons (ps_if (pt_not (pt_val (pe_callF G__law_parts (hr.mono (by first | decide | omega)) (pa_cons (pv 3) (pa_cons (pv 8) (pa_cons (kfld (K := K) rfl (pv 7) rfl) (pa_cons (kfld (K := K) rfl (pv 7) rfl) pa_nil))))))) (pss_one (ps_ret pe_bl)) pss_nil)
   (pss_cons (ps_set (i := 9) S_law.nd rfl (by first | exact .inl rfl | exact .inr rfl) (pe_callX G_judged takesN (E := E0) (fun _ _ _ _ h=>h) (hr.mono (by first | decide | omega)) (pa_cons (pe_callF G__law_made (hr.mono (by first | decide | omega)) (pa_cons (pv 3) pa_nil)) pa_nil)))
   (pss_one (ps_if (pt_cmpR (kneD (K := K) rfl hr.units) (pe_tup (pa_cons (kfld (K := K) rfl (pv 9) rfl) (pa_cons (kfld (K := K) rfl (pv 9) rfl) (pa_cons (kfld (K := K) rfl (pv 9) rfl) pa_nil)))) (pe_tup (pa_cons (pv 8) (pa_cons (kfld (K := K) rfl (pv 7) rfl) (pa_cons (kfld (K := K) rfl (pv 7) rfl) pa_nil)))) (nomark _)) (pss_one (ps_ret pe_bl)) pss_nil)))))))) (pss_one (ps_if (PW.pt (pw_and (pt_cmpR (SG.kneDT (K := K) rfl hr.units) (pe_ix (kix (K := K) rfl) (pv 3) pe_int (fun _ _=>rfl)) pe_dnewT (nomark _)) (pw_and1 (pt_not (pt_val (pe_callX G__law_never_farther takesN (E := E0) (fun _ _ _ _ h=>h) (hr.mono (by first | decide | omega)) (pa_cons (pv 2) (pa_cons (pv 3) (pa_cons (pv 5) pa_nil))))))))) (pss_one (ps_ret pe_bl)) pss_nil))))))))))))
   (pss_one (ps_ret pe_bl))),fun ds Qd h=>?_⟩
 obtain ⟨ns,rfl,q⟩ := h
 have c9 : ∀ {n : Nat},n <= 30 -> n <= 100000 := fun h=>by omega
 refine ws_seq<|ws_for<|ei_range1<|ea_cons<|ew_int<|ea_nil ⟨_,rfl,by decide,by decide,fun _ ρ=>∃ s1 s2 s3 s4 s5 s6 s7 s8 s9 : Sl,ρ = [.sh (.scr ns),s1,s2,s3,s4,s5,s6,s7,s8,s9,.un],⟨_,_,_,_,_,_,_,_,_,rfl⟩,?_,fun ρ' h=>?_⟩
 ·rintro i d ρ' hd ⟨s1,s2,s3,s4,s5,s6,s7,s8,s9,rfl⟩
  obtain ⟨j,rfl,hj4⟩ : ∃ j : Nat,d = .int (j : Nat) /\ j <= 1000 := by
   rw [List.getElem?_map] at hd
   obtain ⟨j,hj,e⟩ := Option.map_eq_some_iff.mp hd
   have := List.mem_range.mp (List.mem_of_getElem? hj)
   exact ⟨j,by rw [<- e,Int.zero_add],by have : j < 3 := this; omega⟩
  refine gw_name<|ws_seq<|ws_asgN<|en_callN<|ea_cons<|ew_var rfl<|ea_cons<|ew_var rfl<|ea_nil ⟨ns,j,rfl,hj4,fun p hb pa=>?_⟩
  show WS K _ [.sh (.scr ns),.sh (.int (j : Nat)),.own pa (stD p),s3,s4,s5,s6,s7,s8,s9,.un] _
  refine ws_seq<|ws_asg<|ew_callV 900000 rfl<|ea_cons<|ew_int<|ea_nil ⟨p,rfl,hb.less (by decide),2,rfl,by decide,by decide,fun t0 o0 hi0 p1 hb1=>gw_name ?_⟩
  show WS K _ [.sh (.scr ns),.sh (.int (j : Nat)),.own pa (stD p1),.sh (tblD t0),s4,s5,s6,s7,s8,s9,.un] _
  have w03 := o0.w1
  have f03 := o0.f1
  refine ws_mid (fun ρ=>∃ (p2 : P3) (t : TB),t.Ok /\ InKS t /\ Bud 800000 p2 /\ ρ = [.sh (.scr ns),.sh (.int (j : Nat)),.own pa (stD p2),.sh (tblD t),s4,s5,s6,s7,s8,s9,.un]) ?_ ?_
  ·refine ws_if<|et_test<|ew_op<|ew_op<|ew_op<|ew_cb<|ea_cons<|ew_op<|ew_var rfl<|ew_int<|op2_ix (x := tblD t0) (d := .lst (strsD t0.waits)) rfl rfl<|ea_nil<|opa_len rfl<|ew_cb<|ea_cons<|ew_op<|ew_var rfl<|ew_int<|op2_ix (x := tblD t0) (d := .lst (strsD t0.frees)) rfl rfl<|ea_nil<|opa_len rfl<|op2_int<|ew_op<|ew_var rfl<|ew_int<|op2_ix (x := tblD t0) (d := .int (t0.depth : Nat)) rfl rfl<|op2_int<|ew_int<|op2_cmp ⟨_,rfl,ite_b (fun _=>?_) (fun _=>ws_next ⟨p1,t0,o0,hi0,hb1.less (by decide),rfl⟩)⟩
   exact ws_asg<|ew_callV 800000 rfl<|ea_cons<|ew_int<|ea_nil ⟨p1,rfl,hb1.less (by decide),1,rfl,by decide,by decide,fun t o hi p2 hb2=>gw_name ⟨p2,t,o,hi,hb2,rfl⟩⟩
  rintro ρ1 ⟨p2,t1,o1,hi1,hb2,rfl⟩
  refine ws_seq<|ws_for<|ei_range1<|ea_cons<|ew_callV 799000 rfl<|ea_cons<|ew_int<|ea_nil ⟨p2,rfl,hb2.less (by decide),3,rfl,by decide,by decide,fun r hr0 hr1 p3 hb3=>ea_nil ⟨r,rfl,by omega,by omega,fun i ρ=>∃ (p4 : P3) (t : TB) (s4 : Sl),ρ = [.sh (.scr ns),.sh (.int (j : Nat)),.own pa (stD p4),.sh (tblD t),s4,s5,s6,s7,s8,s9,.un] /\ t.Ok /\ InKS t /\ Bud (700000 + 20 * (10 - i)) p4,⟨p3,t1,_,rfl,o1,hi1,hb3.less (by omega)⟩,?_,?_⟩⟩
  ·rintro i2 d ρ' hd ⟨p4,t,s4,rfl,o,hin,hb4⟩
   have hlt := (List.getElem?_eq_some_iff.mp hd).1
   rw [List.length_map,List.length_range] at hlt
   refine gw_name ?_
   show WS K _ [.sh (.scr ns),.sh (.int (j : Nat)),.own pa (stD p4),.sh (tblD t),.sh d,s5,s6,s7,s8,s9,.un] _
   exact ws_asg<|ew_callV (700000 + 20 * (10 - (i2 + 1))) rfl<|ea_cons<|ew_var rfl<|ea_nil ⟨p4,rfl,hb4.less (by omega),t,o,hin,rfl,fun t' o' hi' p5 hb5=>gw_name ⟨p5,t',_,rfl,o',hi',hb5⟩⟩
  rintro ρ' ⟨p4,t,s4',rfl,o,hin,hb4⟩
  have w3 := o.w1
  have f3 := o.f1
  refine ws_seq<|ws_par<|ea_cons<|ew_callP<|ea_cons<|ew_var rfl<|ea_nil ⟨t,o,rfl,fun ps hh=>ea_cons<|ew_callP<|ea_cons<|ew_var rfl<|ea_nil ⟨t,o,rfl,fun r hF=>ea_nil ⟨_,_,rfl,?_⟩⟩⟩
  show WS K _ [.sh (.scr ns),.sh (.int (j : Nat)),.own pa (stD p4),.sh (tblD t),s4',.sh (tabI t ps),.sh (optI r),s7,s8,s9,.un] _
  refine ws_seq<|ws_asg<|ew_callS<|ea_cons<|ew_var rfl<|ea_nil ⟨t,ps,o,hh,rfl,gw_name ?_⟩
  show WS K _ [.sh (.scr ns),.sh (.int (j : Nat)),.own pa (stD p4),.sh (tblD t),s4',.sh (tabI t ps),.sh (optI r),.sh (faultO (judgedL t)),s8,s9,.un] _
  cases hJ : judgedL t with
  | none =>
   obtain ⟨rfl,hno⟩ := judged_none o hJ hF
   refine ws_seq<|ws_ifn (C := True) (et_test<|ew_op<|ew_op<|ew_var rfl<|ew_non<|op2_isN<|ew_op<|ew_var rfl<|ew_non<|op2_isN<|op2_ne_bl ⟨_,rfl,iteF ⟨rfl,trivial⟩⟩) fun _=>?_
   refine ws_if<|et_test<|ew_op<|ew_var rfl<|ew_non<|op2_notN ⟨_,rfl,iteF ?_⟩
   refine ws_if<|et_and<|et_test<|ew_op<|ew_op<|ew_var rfl<|ew_int<|op2_ix (x := tblD t) (d := .dt (t.cs.map pairP)) rfl rfl<|ew_new<|en_dnewT<|op2_eqDT0 (neg := true) ⟨_,rfl,?_⟩
   by_cases hcs : t.cs = []
   ·have e : (t.cs.map pairP).isEmpty = true := by rw [hcs]; rfl
    rw [e]
    exact iteF<|iteF<|ws_next ⟨_,_,_,_,_,_,_,_,_,rfl⟩
   ·have e : (t.cs.map pairP).isEmpty = false := by
     cases hh : t.cs with
     | nil=>exact absurd hh hcs
     | cons _ _=>rfl
    rw [e]
    exact iteT<|et_not<|et_B<|ew_callV 600000 rfl<|ea_cons<|ew_var rfl<|ea_cons<|ew_var rfl<|ea_nil ⟨p4,rfl,hb4.less (by omega),t,ps,o,hh,hcs,hno,rfl,fun p5 hb5=>⟨_,rfl,iteF<|ws_next ⟨_,_,_,_,_,_,_,_,_,rfl⟩⟩⟩
  | some cc =>
   obtain ⟨rows,hm,hbk,hk,hp,rfl⟩ := judged_some o hJ hF
   have hcm : dget (t.cs.map pairP) (keyP cc.2.2) = some (rowsD rows) := by rw [dget_comers,mem_rowsAt o hm]; rfl
   have pyF : PyI 3 (.tup [bookD cc.1,tkD cc.2.1,comerD cc.2.2]) := .tup (memc (pyI_book _)<|memc (PyI.more (pyI_tok o hk))<|memc (PyI.more (pyI_comer o hm)) memn)
   refine ws_seq<|ws_ifn (C := True) (et_test<|ew_op<|ew_op<|ew_var rfl<|ew_non<|op2_isN<|ew_op<|ew_var rfl<|ew_non<|op2_isN<|op2_ne_bl ⟨_,rfl,iteF ⟨rfl,trivial⟩⟩) fun _=>?_
   refine ws_if<|et_test<|ew_op<|ew_var rfl<|ew_non<|op2_notN ⟨_,rfl,iteT ?_⟩
   refine ws_seq<|ws_asg<|ew_fld<|ew_var rfl ⟨"Fault",_,_,rfl,T.cl_Fault,T.na_Fault_book,rfl,gw_name ?_⟩
   show WS K _ [.sh (.scr ns),.sh (.int (j : Nat)),.own pa (stD p4),.sh (tblD t),s4',.sh (tabI t ps),.sh (.int (unitsB cc.1)),.sh (faultD cc),.sh (bookD cc.1),s9,.un] _
   refine ws_seq<|ws_ifn (C := True) (et_or<|et_not<|et_B<|ew_isi (by decide)<|ew_var rfl ⟨rfl,_,rfl,iteF<|et_not<|et_B<|ew_cb<|ea_cons<|ew_new<|en_lcB (f := fun _=>true)<|ei_seq (bookD cc.1) rfl<|ew_var rfl ⟨rfl,rfl,by show 2 <= 90000; decide,fun i y hy=>?_,ea_nil<|opa_all ⟨_,rfl,iteF ⟨rfl,trivial⟩⟩⟩⟩) fun _=>?_
   ·have : y = intsT cc.1.1 \/ y = intsT cc.1.2 := by
     match i,hy with
     | 0,hy=>cases hy; exact .inl rfl
     | 1,hy=>cases hy; exact .inr rfl
    rcases this with rfl | rfl
    ·exact gv_name (by decide)<|ew_isi (by decide)<|ew_var rfl ⟨rfl,rfl,rfl⟩
    ·exact gv_name (by decide)<|ew_isi (by decide)<|ew_var rfl ⟨rfl,rfl,rfl⟩
   refine ws_seq<|ws_ifn (C := True) (et_or<|et_test<|ew_op<|ew_fld<|ew_var rfl ⟨"Fault",_,_,rfl,T.cl_Fault,T.na_Fault_token,rfl,ew_callP<|ea_cons<|ew_var rfl<|ea_nil ⟨t,o,rfl,op2_notInD (n := 1) (b := true) (pyI_tok o hk) (fun y hy=>?_) (by decide) ?_ ⟨_,rfl,iteF<|et_test<|ew_dnotinT<|ew_fld<|ew_var rfl ⟨"Fault",_,_,rfl,T.cl_Fault,T.na_Fault_comer,rfl,ew_op<|ew_var rfl<|ew_int<|op2_ix (x := tblD t) (d := .dt (t.cs.map pairP)) rfl rfl ⟨keyP cc.2.2,_,rfl,rfl,_,rfl,?_⟩⟩⟩⟩⟩) fun _=>?_
   ·obtain ⟨k',hk',rfl⟩ := List.mem_map.mp hy
    exact pyI_tok o hk'
   ·exact ⟨fun _=>List.mem_map.mpr ⟨_,hk,rfl⟩,fun _=>rfl⟩
   ·rw [hcm]
    exact iteF ⟨rfl,trivial⟩
   refine ws_seq<|ws_ifn (C := True) (et_test<|ew_op<|ew_op<|ew_cb<|ea_cons<|ew_op<|ew_var rfl<|ew_int<|op2_ix (x := bookD cc.1) (d := intsT cc.1.1) rfl rfl<|ea_nil<|opa_sumT<|ew_cb<|ea_cons<|ew_op<|ew_var rfl<|ew_int<|op2_ix (x := bookD cc.1) (d := intsT cc.1.2) rfl rfl<|ea_nil<|opa_sumT<|op2_int<|ew_var rfl<|op2_ne_int ⟨_,rfl,?_⟩) fun _=>?_
   ·rw [decide_eq_true (show cc.1.1.sum + cc.1.2.sum = unitsB cc.1 from rfl)]
    exact iteF ⟨rfl,trivial⟩
   refine ws_seq<|ws_ifn (C := True) (et_not<|et_B<|ew_callP<|ea_cons<|ew_var rfl<|ea_cons<|ew_var rfl<|ea_cons<|ew_fld<|ew_var rfl ⟨"Fault",_,_,rfl,T.cl_Fault,T.na_Fault_token,rfl,ea_cons<|ew_fld<|ew_var rfl ⟨"Fault",_,_,rfl,T.cl_Fault,T.na_Fault_comer,rfl,ea_nil ⟨t,cc.1,cc.2.1,cc.2.2,rows,o,hbk,hk,hm,rfl,fun rr hrr=>⟨_,rfl,?_⟩⟩⟩⟩) fun _=>?_
   ·rw [hrr.mpr hp]
    exact iteF ⟨rfl,trivial⟩
   refine ws_seq<|ws_asg<|ew_callS<|ea_cons<|ew_callP<|ea_cons<|ew_var rfl<|ea_nil ⟨t,o,rfl,fun ps2 hh2=>ea_nil ⟨t,ps2,o,hh2,rfl,gw_name ?_⟩⟩
   rw [hJ]
   show WS K _ [.sh (.scr ns),.sh (.int (j : Nat)),.own pa (stD p4),.sh (tblD t),s4',.sh (tabI t ps),.sh (.int (unitsB cc.1)),.sh (faultD cc),.sh (bookD cc.1),.sh (faultD cc),.un] _
   exact ws_ifn (C := True) (et_test<|ew_op<|ew_tup<|ea_cons<|ew_fld<|ew_var rfl ⟨"Fault",_,_,rfl,T.cl_Fault,T.na_Fault_book,rfl,ea_cons<|ew_fld<|ew_var rfl ⟨"Fault",_,_,rfl,T.cl_Fault,T.na_Fault_token,rfl,ea_cons<|ew_fld<|ew_var rfl ⟨"Fault",_,_,rfl,T.cl_Fault,T.na_Fault_comer,rfl,ea_nil ⟨c9 (by show 3 <= 30; decide),ew_tup<|ea_cons<|ew_var rfl<|ea_cons<|ew_fld<|ew_var rfl ⟨"Fault",_,_,rfl,T.cl_Fault,T.na_Fault_token,rfl,ea_cons<|ew_fld<|ew_var rfl ⟨"Fault",_,_,rfl,T.cl_Fault,T.na_Fault_comer,rfl,ea_nil ⟨c9 (by show 3 <= 30; decide),op2_neSelf pyF.ok (by decide) ⟨_,rfl,iteF ⟨rfl,trivial⟩⟩⟩⟩⟩⟩⟩⟩⟩) fun _=>⟨_,_,_,_,_,_,_,_,_,rfl⟩
 ·obtain ⟨s1,s2,s3,s4,s5,s6,s7,s8,s9,rfl⟩ := h
  exact ws_ret<|ew_bl q
end
end K65
set_option maxHeartbeats 0
namespace K65
open PySem PySem.Spec PyProof.Rows L2 DL
theorem factsTX {w : World} {K : PySem.W.Frag} {h : Heap} {mg : Str -> Option Value} (X : K.In h) (G : h.Ns mainGlobals mg) (c : He.SaysX HD.fa HD.fn [] HD.tf HD.ex w h K) : TX PySem.Challenge.pw_seatroads_k65_whole_tables_judged K mg := by
 have more := c.more
 simp only [HD.ex,Bool.and_eq_true] at more
 exact {
  n_ValueError := He.free_ok X G (c.t.d.fact 49 (f := .free "ValueError") rfl)
  n_abs := He.free_ok X G (c.t.d.fact 50 (f := .free "abs") rfl)
  n_all := He.free_ok X G (c.t.d.fact 51 (f := .free "all") rfl)
  n_any := He.free_ok X G (c.t.d.fact 52 (f := .free "any") rfl)
  n_bool := He.free_ok X G (c.t.d.fact 53 (f := .free "bool") rfl)
  n_dict := He.free_ok X G (c.t.d.fact 54 (f := .free "dict") rfl)
  n_enumerate := He.free_ok X G (c.t.d.fact 55 (f := .free "enumerate") rfl)
  n_int := He.free_ok X G (c.t.d.fact 56 (f := .free "int") rfl)
  n_isinstance := He.free_ok X G (c.t.d.fact 57 (f := .free "isinstance") rfl)
  n_len := He.free_ok X G (c.t.d.fact 58 (f := .free "len") rfl)
  n_list := He.free_ok X G (c.t.d.fact 59 (f := .free "list") rfl)
  n_min := He.free_ok X G (c.t.d.fact 60 (f := .free "min") rfl)
  n_range := He.free_ok X G (c.t.d.fact 61 (f := .free "range") rfl)
  n_sorted := He.free_ok X G (c.t.d.fact 62 (f := .free "sorted") rfl)
  n_str := He.free_ok X G (c.t.d.fact 63 (f := .free "str") rfl)
  n_sum := He.free_ok X G (c.t.d.fact 64 (f := .free "sum") rfl)
  n_super := He.free_ok X G (c.t.d.fact 65 (f := .free "super") rfl)
  n_tuple := He.free_ok X G (c.t.d.fact 66 (f := .free "tuple") rfl)
  n_zip := He.free_ok X G (c.t.d.fact 67 (f := .free "zip") rfl)
  g__wall := He.glo_ok X G (c.t.d.fact 0 (f := .glo "_wall") rfl)
  g_is_list := He.glo_ok X G (c.t.d.fact 1 (f := .glo "is_list") rfl)
  g_is_name := He.glo_ok X G (c.t.d.fact 2 (f := .glo "is_name") rfl)
  g_is_whole := He.glo_ok X G (c.t.d.fact 3 (f := .glo "is_whole") rfl)
  g_are_unlike := He.glo_ok X G (c.t.d.fact 4 (f := .glo "are_unlike") rfl)
  g_as_tuples := He.glo_ok X G (c.t.d.fact 5 (f := .glo "as_tuples") rfl)
  g_are_sorts := He.glo_ok X G (c.t.d.fact 6 (f := .glo "are_sorts") rfl)
  g_are_counts := He.glo_ok X G (c.t.d.fact 7 (f := .glo "are_counts") rfl)
  g_all_counts := He.glo_ok X G (c.t.d.fact 8 (f := .glo "all_counts") rfl)
  g_is_row := He.glo_ok X G (c.t.d.fact 9 (f := .glo "is_row") rfl)
  g_are_rows := He.glo_ok X G (c.t.d.fact 10 (f := .glo "are_rows") rfl)
  g_is_comer := He.glo_ok X G (c.t.d.fact 11 (f := .glo "is_comer") rfl)
  g_are_comers := He.glo_ok X G (c.t.d.fact 12 (f := .glo "are_comers") rfl)
  g_is_book := He.glo_ok X G (c.t.d.fact 13 (f := .glo "is_book") rfl)
  g_added := He.glo_ok X G (c.t.d.fact 14 (f := .glo "added") rfl)
  g_less := He.glo_ok X G (c.t.d.fact 15 (f := .glo "less") rfl)
  g_apart := He.glo_ok X G (c.t.d.fact 16 (f := .glo "apart") rfl)
  g_one_of := He.glo_ok X G (c.t.d.fact 17 (f := .glo "one_of") rfl)
  g_none_of := He.glo_ok X G (c.t.d.fact 18 (f := .glo "none_of") rfl)
  g_higher_book := He.glo_ok X G (c.t.d.fact 19 (f := .glo "higher_book") rfl)
  g_is_near := He.glo_ok X G (c.t.d.fact 20 (f := .glo "is_near") rfl)
  g_cases_of := He.glo_ok X G (c.t.d.fact 21 (f := .glo "cases_of") rfl)
  g_judged := He.glo_ok X G (c.t.d.fact 22 (f := .glo "judged") rfl)
  g__law_stream := He.glo_ok X G (c.t.d.fact 23 (f := .glo "_law_stream") rfl)
  g__law_draw := He.glo_ok X G (c.t.d.fact 24 (f := .glo "_law_draw") rfl)
  g__law_pick := He.glo_ok X G (c.t.d.fact 25 (f := .glo "_law_pick") rfl)
  g__law_tuples := He.glo_ok X G (c.t.d.fact 26 (f := .glo "_law_tuples") rfl)
  g__law_sides := He.glo_ok X G (c.t.d.fact 27 (f := .glo "_law_sides") rfl)
  g__law_one := He.glo_ok X G (c.t.d.fact 28 (f := .glo "_law_one") rfl)
  g__law_listed := He.glo_ok X G (c.t.d.fact 29 (f := .glo "_law_listed") rfl)
  g__law_mix := He.glo_ok X G (c.t.d.fact 30 (f := .glo "_law_mix") rfl)
  g__law_drawn := He.glo_ok X G (c.t.d.fact 31 (f := .glo "_law_drawn") rfl)
  g__law_bent := He.glo_ok X G (c.t.d.fact 32 (f := .glo "_law_bent") rfl)
  g__law_made := He.glo_ok X G (c.t.d.fact 33 (f := .glo "_law_made") rfl)
  g__law_after := He.glo_ok X G (c.t.d.fact 34 (f := .glo "_law_after") rfl)
  g__law_higher := He.glo_ok X G (c.t.d.fact 35 (f := .glo "_law_higher") rfl)
  g__law_tokens := He.glo_ok X G (c.t.d.fact 36 (f := .glo "_law_tokens") rfl)
  g__law_is_near := He.glo_ok X G (c.t.d.fact 37 (f := .glo "_law_is_near") rfl)
  g__law_parts := He.glo_ok X G (c.t.d.fact 38 (f := .glo "_law_parts") rfl)
  g__law_fewest := He.glo_ok X G (c.t.d.fact 39 (f := .glo "_law_fewest") rfl)
  g__law_never_farther := He.glo_ok X G (c.t.d.fact 40 (f := .glo "_law_never_farther") rfl)
  g_law := He.glo_ok X G (c.t.d.fact 41 (f := .glo "law") rfl)
  g_OfficeError := He.glo_ok X G (c.t.d.fact 42 (f := .glo "OfficeError") rfl)
  g_BadTable := He.glo_ok X G (c.t.d.fact 43 (f := .glo "BadTable") rfl)
  g_BadComer := He.glo_ok X G (c.t.d.fact 44 (f := .glo "BadComer") rfl)
  g_BadCounts := He.glo_ok X G (c.t.d.fact 45 (f := .glo "BadCounts") rfl)
  g_BadBook := He.glo_ok X G (c.t.d.fact 46 (f := .glo "BadBook") rfl)
  g_Table := He.glo_ok X G (c.t.d.fact 47 (f := .glo "Table") rfl)
  g_Fault := He.glo_ok X G (c.t.d.fact 48 (f := .glo "Fault") rfl)
  S_BadTable := EXS.supB_ok (fun _ _ _ _ _ _ _ _ _ _ _ _ _ _ _ _=>rfl) more.2.1
  xf_BadTable := xfB_ok more.2.2.1
  xm_BadTable := of_decide_eq_true more.2.2.2.1
  xn_BadTable := He.eqO_ok more.2.2.2.2.1
  S_BadComer := EXS.supB_ok (fun _ _ _ _ _ _ _ _ _ _ _ _ _ _ _ _=>rfl) more.2.2.2.2.2.1
  xf_BadComer := xfB_ok more.2.2.2.2.2.2.1
  xm_BadComer := of_decide_eq_true more.2.2.2.2.2.2.2.1
  xn_BadComer := He.eqO_ok more.2.2.2.2.2.2.2.2.1
  S_BadCounts := EXS.supB_ok (fun _ _ _ _ _ _ _ _ _ _ _ _ _ _ _ _=>rfl) more.2.2.2.2.2.2.2.2.2.1
  xf_BadCounts := xfB_ok more.2.2.2.2.2.2.2.2.2.2.1
  xm_BadCounts := of_decide_eq_true more.2.2.2.2.2.2.2.2.2.2.2.1
  xn_BadCounts := He.eqO_ok more.2.2.2.2.2.2.2.2.2.2.2.2.1
  S_BadBook := EXS.supB_ok (fun _ _ _ _ _ _ _ _ _ _ _ _ _ _ _ _=>rfl) more.2.2.2.2.2.2.2.2.2.2.2.2.2.1
  xf_BadBook := xfB_ok more.2.2.2.2.2.2.2.2.2.2.2.2.2.2.1
  xm_BadBook := of_decide_eq_true more.2.2.2.2.2.2.2.2.2.2.2.2.2.2.2.1
  xn_BadBook := He.eqO_ok more.2.2.2.2.2.2.2.2.2.2.2.2.2.2.2.2
  c_SIGNS := He.str_ok X G (c.t.d.fact 68 (f := .str "SIGNS" "abcdefghijklmnopqrstuvwxyz0123456789") rfl)
  c_LONGEST := He.int_ok X G (c.t.d.fact 69 (f := .int "LONGEST" 8) rfl)
  c_SIDES := He.glo_ok X G (c.t.d.fact 70 (f := .glo "SIDES") rfl)
  v_SIDES := fun H=>He.tupB_ok more.1 H
  c_DEEPEST := He.int_ok X G (c.t.d.fact 71 (f := .int "DEEPEST" 3) rfl)
  F__wall := c.t.d.def_ 0 (d := HD.d__wall) rfl
  F_is_list := c.t.d.def_ 1 (d := HD.d_is_list) rfl
  F_is_name := c.t.d.def_ 2 (d := HD.d_is_name) rfl
  F_is_whole := c.t.d.def_ 3 (d := HD.d_is_whole) rfl
  F_are_unlike := c.t.d.def_ 4 (d := HD.d_are_unlike) rfl
  F_as_tuples := c.t.d.def_ 5 (d := HD.d_as_tuples) rfl
  F_are_sorts := c.t.d.def_ 6 (d := HD.d_are_sorts) rfl
  F_are_counts := c.t.d.def_ 7 (d := HD.d_are_counts) rfl
  F_all_counts := c.t.d.def_ 8 (d := HD.d_all_counts) rfl
  F_is_row := c.t.d.def_ 9 (d := HD.d_is_row) rfl
  F_are_rows := c.t.d.def_ 10 (d := HD.d_are_rows) rfl
  F_is_comer := c.t.d.def_ 11 (d := HD.d_is_comer) rfl
  F_are_comers := c.t.d.def_ 12 (d := HD.d_are_comers) rfl
  F_is_book := c.t.d.def_ 13 (d := HD.d_is_book) rfl
  F_added := c.t.d.def_ 14 (d := HD.d_added) rfl
  F_less := c.t.d.def_ 15 (d := HD.d_less) rfl
  F_apart := c.t.d.def_ 23 (d := HD.d_apart) rfl
  F_one_of := c.t.d.def_ 24 (d := HD.d_one_of) rfl
  F_none_of := c.t.d.def_ 25 (d := HD.d_none_of) rfl
  F_higher_book := c.t.d.def_ 27 (d := HD.d_higher_book) rfl
  F_is_near := c.t.d.def_ 28 (d := HD.d_is_near) rfl
  F_cases_of := c.t.d.def_ 29 (d := HD.d_cases_of) rfl
  F_judged := c.t.d.def_ 30 (d := HD.d_judged) rfl
  F__law_stream := c.t.d.def_ 31 (d := HD.d__law_stream) rfl
  F__law_draw := c.t.d.def_ 32 (d := HD.d__law_draw) rfl
  F__law_pick := c.t.d.def_ 33 (d := HD.d__law_pick) rfl
  F__law_tuples := c.t.d.def_ 34 (d := HD.d__law_tuples) rfl
  F__law_sides := c.t.d.def_ 35 (d := HD.d__law_sides) rfl
  F__law_one := c.t.d.def_ 36 (d := HD.d__law_one) rfl
  F__law_listed := c.t.d.def_ 37 (d := HD.d__law_listed) rfl
  F__law_mix := c.t.d.def_ 38 (d := HD.d__law_mix) rfl
  F__law_drawn := c.t.d.def_ 39 (d := HD.d__law_drawn) rfl
  F__law_bent := c.t.d.def_ 40 (d := HD.d__law_bent) rfl
  F__law_made := c.t.d.def_ 41 (d := HD.d__law_made) rfl
  F__law_after := c.t.d.def_ 42 (d := HD.d__law_after) rfl
  F__law_higher := c.t.d.def_ 43 (d := HD.d__law_higher) rfl
  F__law_tokens := c.t.d.def_ 44 (d := HD.d__law_tokens) rfl
  F__law_is_near := c.t.d.def_ 45 (d := HD.d__law_is_near) rfl
  F__law_parts := c.t.d.def_ 46 (d := HD.d__law_parts) rfl
  F__law_fewest := c.t.d.def_ 47 (d := HD.d__law_fewest) rfl
  F__law_never_farther := c.t.d.def_ 48 (d := HD.d__law_never_farther) rfl
  F_law := c.t.d.def_ 49 (d := HD.d_law) rfl
  cl_Table := He.cls_ok (c.t.d.fact 72 (f := .cls "Table") rfl)
  na_Table_by_comer := He.noat_ok (c.t.d.fact 79 (f := .noat "Table" "by_comer") rfl)
  na_Table_depth := He.noat_ok (c.t.d.fact 80 (f := .noat "Table" "depth") rfl)
  na_Table_frees := He.noat_ok (c.t.d.fact 81 (f := .noat "Table" "frees") rfl)
  na_Table_waits := He.noat_ok (c.t.d.fact 82 (f := .noat "Table" "waits") rfl)
  F_Table___init__ := c.t.d.def_ 16 (d := HD.d_Table___init__) rfl
  mk_Table := He.mkr_ok (c.t.d.fact 73 (f := .mkr "Table") rfl)
  F_Table_comers := c.t.d.def_ 17 (d := HD.d_Table_comers) rfl
  me_Table_comers := He.meth_ok (c.t.d.fact 74 (f := .meth "Table" "comers") rfl)
  F_Table_row := c.t.d.def_ 18 (d := HD.d_Table_row) rfl
  me_Table_row := He.meth_ok (c.t.d.fact 75 (f := .meth "Table" "row") rfl)
  F_Table_check_book := c.t.d.def_ 19 (d := HD.d_Table_check_book) rfl
  me_Table_check_book := He.meth_ok (c.t.d.fact 76 (f := .meth "Table" "check_book") rfl)
  F_Table_after := c.t.d.def_ 20 (d := HD.d_Table_after) rfl
  me_Table_after := He.meth_ok (c.t.d.fact 77 (f := .meth "Table" "after") rfl)
  F_Table_after_all := c.t.d.def_ 21 (d := HD.d_Table_after_all) rfl
  me_Table_after_all := He.meth_ok (c.t.d.fact 78 (f := .meth "Table" "after_all") rfl)
  F_Table___eq__ := c.t.d.def_ 22 (d := HD.d_Table___eq__) rfl
  cl_Fault := He.cls_ok (c.t.d.fact 83 (f := .cls "Fault") rfl)
  na_Fault_book := He.noat_ok (c.t.d.fact 85 (f := .noat "Fault" "book") rfl)
  na_Fault_comer := He.noat_ok (c.t.d.fact 86 (f := .noat "Fault" "comer") rfl)
  na_Fault_token := He.noat_ok (c.t.d.fact 87 (f := .noat "Fault" "token") rfl)
  F_Fault___init__ := c.t.d.def_ 26 (d := HD.d_Fault___init__) rfl
  mk_Fault := He.mkr_ok (c.t.d.fact 84 (f := .mkr "Fault") rfl) }
end K65
open PySem PySem.W PySem.Calls PyProof.Rows
theorem PySem.Challenge.cw_seatroads_k65_whole_tables_judged_holds : PySem.Challenge.rw_seatroads_k65_whole_tables_judged.Holds := by
 w_on; o_law
 refine HandSHeadRun.head_any (r := OpenLaw.row PySem.Challenge.rw_seatroads_k65_whole_tables_judged) (q := view (OpenLaw.row PySem.Challenge.rw_seatroads_k65_whole_tables_judged).prog [57]) (H := HD.hk) (ob := HD.ob) (M := 12000) (loose := HD.loose) (d := HandSHeadRun.topDef (OpenLaw.row PySem.Challenge.rw_seatroads_k65_whole_tables_judged).prog 57) (kwd := []) HD.ob_eq
  (by kernel_rfl) (fun s=>by kernel_rfl) HD.run (by kernel_rfl) (by kernel_rfl) (by kernel_rfl) (by rfl) (by first | assumption | decide +kernel) (by decide +kernel) ⟨rfl,rfl,rfl,rfl,rfl,by decide +kernel⟩ ?hw ?hc
 case hw=>w_witness2
 case hc =>
  refine LamX.walk_ofTsE (l := PySem.Challenge.rw_seatroads_k65_whole_tables_judged) (n := 63) (k := 10) (x := "_law_script") (CX := fun _=>L2.CX0) rfl (by decide) (by kernel_rfl) ⟨rfl,by decide,by decide⟩ ?F (fun _ _ _ _ _ z=>z)
  intro w mg fa h Y G hmg0
  obtain ⟨K,KX,c⟩ := Y
  have hmg : mg ("law" : PySem.Str) = some (.ref fa) := by
   have e : (HandSHeadRun.topDef (OpenLaw.row PySem.Challenge.rw_seatroads_k65_whole_tables_judged).prog 57).name = ("law" : PySem.Str) := by kernel_rfl
   rw [<- e]
   exact hmg0
  have T := K65.factsTX KX G c
  obtain ⟨fd,F⟩ := T.F_law
  have e := hmg.symm.trans T.g_law
  cases e
  have b := L2.FunD.bindsA (ps := ["_law_script"]) F fun _ _ _ _ _ _ us hl=>match us,hl with | [_],_=>rfl
  have more := c.more
  simp only [HD.ex,Bool.and_eq_true] at more
  have nd : (List.map (fun x : PySem.Addr × PySem.Str=>x.1) [((He.cT K ("cases_of",none)).2,K65.qC)]).Nodup := by simp
  have all : ∀ {C : PySem.Addr × PySem.Addr -> Prop},(∀ f ∈ HD.tf,C (He.cT K f)) -> ∀ p ∈ [He.cT K ("cases_of",none)],C p := fun {C} h p hp=>by
   have hp : p ∈ HD.tf.map (He.cT K) := hp
   obtain ⟨f,hf,rfl⟩ := List.mem_map.mp hp
   exact h f hf
  have hcode : fd.code = .ref (He.cT K ("law",none)).1 := DL.code_of F
  letI inst : DL.TabL := ⟨[((He.cT K ("cases_of",none)).2,K65.qC)],nd⟩
  exact ⟨K,KX,fd,[He.cT K ("cases_of",none)],@DL.spP ⟨[((He.cT K ("cases_of",none)).2,K65.qC)],nd⟩ K K65.TLaw,all fun f hf=>c.empty f hf,all fun f hf=>c.out f hf,all fun f hf=>PySem.W.codeHd_of_K KX (c.hd f hf),fun s v=>b s [v] rfl,fun H a ns hl _ hH hS=>DL.spP_startN nd (fun t ht=>by
   simp only [List.mem_cons,List.not_mem_nil,or_false] at ht
   rcases ht with rfl <;> exact hH _ (by simp)) hS ⟨ns,rfl,rfl⟩,fun base _ _ TB=>haveI : K65.LamF K mg base := ⟨⟨_,TB _ List.mem_cons_self,List.mem_cons_self⟩⟩; K65.ok_law F T hcode ⟩
