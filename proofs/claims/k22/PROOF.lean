import PyProof.Rows.All
import Wide.All
import OpenK.AllK
import Wide.FinOn
import HandS.ForMost
import HandS.ForExc
import HandS.Defaults
import HandS.Wide
import HandS.FStr
import HandS.IsInst
import HandS.More
import HandS.Flow
import HandS.Codes
import HandS.Zip
import HandS.Walk
import HandS.Dict
import HandS.NoneIn
import PyProof.StrBlock2
import HandS.HeadHook1
import HandS.Text
import KE.IntTextLaws
import PyProof.StrLawsChain
import KE.KStateDown
import HandS.Head0
import HandS.Head1
import HandS.Head2
import HandS.HeadEnd
import HandS.HeadHook2
import HandS.HeadHook3
import HandS.HeadHook4
import PySem.Challenge.RW_stayprice_k22_texts_of_no_rule
set_option Elab.async false
set_option linter.all false
set_option maxRecDepth 100000
set_option maxHeartbeats 0
/-! Sg: evaluation over a lasting part G of the heap and owned cells M. -/
namespace Sg
open PySem PySem.Spec L2

/-! ### descriptions of values -/
/-- what is said of a value, lasting -/
structure Pr where
  h : V → Hp → Prop
  m : ∀ {v : V} {G G' : Hp}, Same G G' → h v G → h v G'
abbrev pV (x : V) : Pr := ⟨fun v _ => v = x, fun _ h => h⟩
abbrev pI (n : Int) : Pr := pV (.int n)
abbrev pB (b : Bool) : Pr := pV (.bl b)
abbrev pS (s : Str) : Pr := pV (.str s)
abbrev pN : Pr := pV .non
def Als (G : Hp) : List Pr → List V → Prop
  | [], [] => True
  | p :: ps, v :: vs => p.h v G ∧ Als G ps vs
  | _, _ => False
theorem Als.nil {G : Hp} : Als G [] [] := trivial
theorem Als.cons {G : Hp} {p : Pr} {ps : List Pr} {v : V} {vs : List V} (h : p.h v G) (t : Als G ps vs) : Als G (p :: ps) (v :: vs) := ⟨h, t⟩
theorem Als.m {G G' : Hp} (e : Same G G') : ∀ {ps : List Pr} {vs : List V}, Als G ps vs → Als G' ps vs
  | [], [], _ => trivial
  | _ :: _, _ :: _, ⟨h, t⟩ => ⟨Pr.m _ e h, Als.m e t⟩
  | [], _ :: _, h => h.elim
  | _ :: _, [], h => h.elim
theorem Als.len {G : Hp} : ∀ {ps : List Pr} {vs : List V}, Als G ps vs → vs.length = ps.length
  | [], [], _ => rfl
  | _ :: _, _ :: _, ⟨_, t⟩ => congrArg (· + 1) (Als.len t)
  | [], _ :: _, h => h.elim
  | _ :: _, [], h => h.elim
theorem Als.get {G : Hp} : ∀ {ps : List Pr} {vs : List V} {i : Nat} {p : Pr}, Als G ps vs → ps[i]? = some p → ∃ v, vs[i]? = some v ∧ p.h v G
  | _ :: _, _ :: _, 0, _, ⟨h, _⟩, e => ⟨_, rfl, by cases e; exact h⟩
  | _ :: _, _ :: _, i + 1, p, ⟨_, t⟩, e => Als.get (i := i) (p := p) t e
  | [], [], _, _, _, e => by simp at e
  | [], _ :: _, _, _, h, _ => h.elim
  | _ :: _, [], _, _, h, _ => h.elim
theorem Als.getV {G : Hp} : ∀ {ps : List Pr} {vs : List V} {i : Nat} {v : V}, Als G ps vs → vs[i]? = some v → ∃ p, ps[i]? = some p ∧ p.h v G
  | _ :: _, _ :: _, 0, _, ⟨h, _⟩, e => ⟨_, rfl, by cases e; exact h⟩
  | _ :: _, _ :: _, i + 1, v, ⟨_, t⟩, e => Als.getV (i := i) (v := v) t e
  | [], [], _, _, _, e => by simp at e
  | [], _ :: _, _, _, h, _ => h.elim
  | _ :: _, [], _, _, h, _ => h.elim
theorem Als.app {G : Hp} : ∀ {ps qs : List Pr} {vs ws : List V}, Als G ps vs → Als G qs ws → Als G (ps ++ qs) (vs ++ ws)
  | [], _, [], _, _, t => t
  | _ :: _, _, _ :: _, _, ⟨h, t⟩, u => ⟨h, Als.app t u⟩
  | [], _, _ :: _, _, h, _ => h.elim
  | _ :: _, _, [], _, h, _ => h.elim
theorem Als.take {G : Hp} : ∀ {ps : List Pr} {vs : List V} (n : Nat), Als G ps vs → Als G (ps.take n) (vs.take n)
  | _, _, 0, _ => trivial
  | [], [], _ + 1, _ => trivial
  | _ :: _, _ :: _, n + 1, ⟨h, t⟩ => ⟨h, Als.take n t⟩
  | [], _ :: _, _, h => h.elim
  | _ :: _, [], _, h => h.elim
theorem Als.drop {G : Hp} : ∀ {ps : List Pr} {vs : List V} (n : Nat), Als G ps vs → Als G (ps.drop n) (vs.drop n)
  | _, _, 0, h => h
  | [], [], _ + 1, _ => trivial
  | _ :: _, _ :: _, n + 1, ⟨_, t⟩ => Als.drop n t
  | [], _ :: _, _, h => h.elim
  | _ :: _, [], _, h => h.elim
theorem Als.set {G : Hp} {p : Pr} {v : V} (hp : p.h v G) : ∀ {ps : List Pr} {vs : List V} (n : Nat), Als G ps vs → Als G (ps.set n p) (vs.set n v)
  | [], [], _, _ => trivial
  | _ :: _, _ :: _, 0, ⟨_, t⟩ => ⟨hp, t⟩
  | _ :: _, _ :: _, n + 1, ⟨h, t⟩ => ⟨h, Als.set hp n t⟩
  | [], _ :: _, _, h => h.elim
  | _ :: _, [], _, h => h.elim
theorem Als.rev {G : Hp} : ∀ {ps : List Pr} {vs : List V}, Als G ps vs → Als G ps.reverse vs.reverse
  | [], [], _ => trivial
  | _ :: _, _ :: _, ⟨h, t⟩ => by
    rw [List.reverse_cons, List.reverse_cons]
    exact Als.app (Als.rev t) ⟨h, trivial⟩
  | [], _ :: _, h => h.elim
  | _ :: _, [], h => h.elim
/-- scalars: the values are known -/
theorem Als.vals {α : Type} {G : Hp} {f : α → V} : ∀ {xs : List α} {vs : List V}, Als G (xs.map fun x => pV (f x)) vs → vs = xs.map f
  | [], [], _ => rfl
  | _ :: _, _ :: _, ⟨h, t⟩ => by
    have h1 : _ = _ := h
    have h2 := Als.vals t
    rw [h1, h2] <;> rfl
  | [], _ :: _, h => h.elim
  | _ :: _, [], h => h.elim
theorem Als.mk {α : Type} {G : Hp} {f : α → V} : ∀ {xs : List α}, Als G (xs.map fun x => pV (f x)) (xs.map f)
  | [] => trivial
  | _ :: _ => ⟨rfl, Als.mk⟩
/-- pointwise weaker -/
theorem Als.imp {α : Type} {G : Hp} {f g : α → Pr} (h : ∀ x v, (f x).h v G → (g x).h v G) : ∀ {xs : List α} {vs : List V}, Als G (xs.map f) vs → Als G (xs.map g) vs
  | [], [], _ => trivial
  | _ :: _, _ :: _, ⟨h1, t⟩ => ⟨h _ _ h1, Als.imp h t⟩
  | [], _ :: _, h => h.elim
  | _ :: _, [], h => h.elim

theorem same_sq {K : PySem.W.Frag} {G G' : Hp} {a : Addr} {xs : List V} (e : Same G G') (h : SqL K G a xs) : SqL K G' a xs := e.seq h
theorem same_sqT {K : PySem.W.Frag} {G G' : Hp} {a : Addr} {xs : List V} (e : Same G G') (h : SqT K G a xs) : SqT K G' a xs := by
  rcases h with (h | ⟨o, h⟩) | h
  · exact .inl (.inl (e _ _ h))
  · exact .inl (.inr ⟨o, e _ _ h⟩)
  · exact .inr h
/-- a tuple | a list that stays as it is, of such -/
def pT (K : PySem.W.Frag) (ps : List Pr) : Pr := ⟨fun v G => ∃ a vs, v = .ref a ∧ SqT K G a vs ∧ Als G ps vs, fun e ⟨a, vs, h1, h2, h3⟩ => ⟨a, vs, h1, same_sqT e h2, h3.m e⟩⟩
def pL (ps : List Pr) : Pr := ⟨fun v G => ∃ a vs, v = .ref a ∧ G a = some (.lst vs) ∧ Als G ps vs, fun e ⟨a, vs, h1, h2, h3⟩ => ⟨a, vs, h1, e _ _ h2, h3.m e⟩⟩
/-- a list that is only read (the script) -/
def pQ (K : PySem.W.Frag) (ps : List Pr) : Pr := ⟨fun v G => ∃ a vs, v = .ref a ∧ SqL K G a vs ∧ Als G ps vs, fun e ⟨a, vs, h1, h2, h3⟩ => ⟨a, vs, h1, same_sq e h2, h3.m e⟩⟩
theorem pL_q {K : PySem.W.Frag} {ps : List Pr} {v : V} {G : Hp} (h : (pL ps).h v G) : (pQ K ps).h v G := by
  obtain ⟨a, vs, h1, h2, h3⟩ := h
  exact ⟨a, vs, h1, SqL.of h2, h3⟩
/-- an instance that stays as it is -/
def pO (C : Addr) (fs : List (Str × Pr)) : Pr := ⟨fun v G => ∃ a dx vs, v = .ref a ∧ G a = some (.ins C dx ((fs.map Prod.fst).zip vs)) ∧ Als G (fs.map Prod.snd) vs, fun e ⟨a, dx, vs, h1, h2, h3⟩ => ⟨a, dx, vs, h1, e _ _ h2, h3.m e⟩⟩
/-! data at any depth -/
mutual
theorem dp_m {K : PySem.W.Frag} {G G' : Hp} (e : Same G G') : ∀ (d : PyData) (v : V), Dp K G v d → Dp K G' v d
  | .none, _, h => by cases h; exact .non
  | .bool b, _, h => by cases h; exact .bl b
  | .int i, _, h => by cases h; exact .int i
  | .str x, _, h => by cases h; exact .str x
  | .list ds, _, h => by
    cases h with
    | lst hs ha => exact .lst (same_sq e hs) (dpa_m e ds _ ha)
  | .tuple ds, _, h => by
    cases h with
    | tup hs ha => exact .tup (same_sqT e hs) (dpa_m e ds _ ha)
  | .dict _, _, h => by cases h
theorem dpa_m {K : PySem.W.Frag} {G G' : Hp} (e : Same G G') : ∀ (ds : List PyData) (vs : List V), DpAll K G vs ds → DpAll K G' vs ds
  | [], _, h => by cases h; exact .nil
  | d :: ds, _, h => by
    cases h with
    | cons h1 h2 => exact .cons (dp_m e d _ h1) (dpa_m e ds _ h2)
end
def pD (K : PySem.W.Frag) (d : PyData) : Pr := ⟨fun v G => Dp K G v d, fun e h => dp_m e d _ h⟩
theorem dpa_als {K : PySem.W.Frag} {G : Hp} : ∀ {ds : List PyData} {vs : List V}, Als G (ds.map (pD K)) vs → DpAll K G vs ds
  | [], [], _ => .nil
  | _ :: _, _ :: _, ⟨h, t⟩ => .cons h (dpa_als t)
  | [], _ :: _, h => h.elim
  | _ :: _, [], h => h.elim
theorem als_dpa {K : PySem.W.Frag} {G : Hp} : ∀ {ds : List PyData} {vs : List V}, DpAll K G vs ds → Als G (ds.map (pD K)) vs
  | [], _, h => by cases h; exact trivial
  | _ :: _, _, h => by
    cases h with
    | cons h1 h2 => exact ⟨h1, als_dpa h2⟩

/-! ### owned cells -/
inductive CD where
  | lst (ps : List Pr)
  | dk (kvs : List (Key × Pr))
  | ins (C : Addr) (fs : List (Str × Pr))
  | raw (o : HO)
def CD.on (G H : Hp) (a : Addr) : CD → Prop
  | .lst ps => ∃ vs, H a = some (.lst vs) ∧ Als G ps vs
  | .dk kps => ∃ vs, H a = some (.dK ((kps.map Prod.fst).zip vs)) ∧ Als G (kps.map Prod.snd) vs
  | .ins C fs => ∃ dx vs, H a = some (.ins C dx ((fs.map Prod.fst).zip vs)) ∧ Als G (fs.map Prod.snd) vs
  | .raw o => H a = some o
theorem CD.on.to {G G' H H' : Hp} {a : Addr} {c : CD} (e : Same G G') (h : H' a = H a) (o : c.on G H a) : c.on G' H' a := by
  cases c with
  | lst ps => obtain ⟨vs, h1, h2⟩ := o; exact ⟨vs, h.trans h1, h2.m e⟩
  | dk kps => obtain ⟨vs, h1, h2⟩ := o; exact ⟨vs, h.trans h1, h2.m e⟩
  | ins C fs => obtain ⟨dx, vs, h1, h2⟩ := o; exact ⟨dx, vs, h.trans h1, h2.m e⟩
  | raw ob => exact h.trans o
theorem CD.on.ex {G H : Hp} {a : Addr} {c : CD} (o : c.on G H a) : ∃ ob, H a = some ob := by
  cases c with
  | lst ps => obtain ⟨vs, h1, _⟩ := o; exact ⟨_, h1⟩
  | dk kps => obtain ⟨vs, h1, _⟩ := o; exact ⟨_, h1⟩
  | ins C fs => obtain ⟨dx, vs, h1, _⟩ := o; exact ⟨_, h1⟩
  | raw ob => exact ⟨_, o⟩
abbrev Cells := List (Addr × CD)
/-- the heap H has the lasting part G and, apart from it and from one another, the cells M -/
structure At (G : Hp) (M : Cells) (H : Hp) : Prop where
  g : Same G H
  c : ∀ x ∈ M, G x.1 = none ∧ x.2.on G H x.1
  d : (M.map Prod.fst).Nodup
theorem At.nil (H : Hp) : At H [] H := ⟨Same.refl H, fun _ h => (by cases h), List.nodup_nil⟩
theorem At.perm {G H : Hp} {M N : Cells} (A : At G M H) (p : M.Perm N) : At G N H :=
  ⟨A.g, fun x hx => A.c x (p.mem_iff.mpr hx), (p.map _).nodup_iff.mp A.d⟩
theorem At.tail {G H : Hp} {x : Addr × CD} {M : Cells} (A : At G (x :: M) H) : At G M H :=
  ⟨A.g, fun y hy => A.c y (List.mem_cons_of_mem _ hy), (List.nodup_cons.mp A.d).2⟩
theorem At.drop {G H : Hp} {M : Cells} : ∀ {X : Cells}, At G (X ++ M) H → At G M H
  | [], A => A
  | _ :: X, A => At.drop (X := X) A.tail
theorem At.head {G H : Hp} {a : Addr} {c : CD} {M : Cells} (A : At G ((a, c) :: M) H) : c.on G H a := (A.c _ List.mem_cons_self).2
theorem At.fresh {G H : Hp} {M : Cells} {p : Addr} (A : At G M H) (hp : H p = none) : G p = none ∧ ∀ x ∈ M, x.1 ≠ p := by
  refine ⟨?_, fun x hx e => ?_⟩
  · cases q : G p with
    | none => rfl
    | some o => rw [A.g p o q] at hp; cases hp
  · obtain ⟨ob, ho⟩ := (A.c x hx).2.ex
    rw [e, hp] at ho; cases ho
/-- something new that H does not describe may come, or go untracked: the cells and G stand -/
theorem At.ext {G H H' : Hp} {M : Cells} (A : At G M H) (e : ∀ a o, H a = some o → H' a = some o) : At G M H' :=
  ⟨fun a o h => e a o (A.g a o h), fun x hx => by
    have h1 := (A.c x hx).1
    have h2 : x.2.on G H x.1 := (A.c x hx).2
    obtain ⟨ob, ho⟩ := h2.ex
    exact ⟨h1, h2.to (Same.refl G) (by rw [ho]; exact e _ _ ho)⟩, A.d⟩
/-- a new object, lasting -/
theorem At.newG {G H : Hp} {M : Cells} {p : Addr} (o : HO) (A : At G M H) (hp : H p = none) : Same G (upd G p o) ∧ At (upd G p o) M (upd H p o) := by
  obtain ⟨g0, ne⟩ := A.fresh hp
  have e : Same G (upd G p o) := fun b u h => by rw [upd_ne (ne_of_none h g0)]; exact h
  refine ⟨e, fun b u h => ?_, fun x hx => ?_, A.d⟩
  · by_cases hb : b = p
    · subst hb; rw [upd_same] at h ⊢; exact h
    · rw [upd_ne hb] at h ⊢; exact A.g b u h
  · have h1 := (A.c x hx).1
    have h2 : x.2.on G H x.1 := (A.c x hx).2
    exact ⟨by rw [upd_ne (ne x hx)]; exact h1, h2.to e (upd_ne (ne x hx))⟩
/-- a new object, owned -/
theorem At.newM {G H : Hp} {M : Cells} {p : Addr} {o : HO} {c : CD} (A : At G M H) (hp : H p = none) (hc : c.on G (upd H p o) p) : At G ((p, c) :: M) (upd H p o) := by
  obtain ⟨g0, ne⟩ := A.fresh hp
  refine ⟨fun b u h => by rw [upd_ne (ne_of_none h g0)]; exact A.g b u h, fun x hx => ?_, ?_⟩
  · rcases List.mem_cons.mp hx with rfl | hx
    · exact ⟨g0, hc⟩
    · have h1 := (A.c x hx).1
      have h2 : x.2.on G H x.1 := (A.c x hx).2
      exact ⟨h1, h2.to (Same.refl G) (upd_ne (ne x hx))⟩
  · rw [List.map_cons, List.nodup_cons]
    refine ⟨fun hm => ?_, A.d⟩
    obtain ⟨x, hx, e⟩ := List.mem_map.mp hm
    exact ne x hx e
/-- the first cell is written -/
theorem At.put {G H : Hp} {M : Cells} {p : Addr} {c c' : CD} {o : HO} (A : At G ((p, c) :: M) H) (hc : c'.on G (upd H p o) p) : At G ((p, c') :: M) (upd H p o) := by
  have g0 := (A.c _ List.mem_cons_self).1
  have nd := List.nodup_cons.mp A.d
  have ne : ∀ x ∈ M, x.1 ≠ p := fun x hx e => nd.1 (by show p ∈ M.map Prod.fst; rw [← e]; exact List.mem_map_of_mem hx)
  refine ⟨fun b u h => by rw [upd_ne (ne_of_none h g0)]; exact A.g b u h, fun x hx => ?_, List.nodup_cons.mpr nd⟩
  rcases List.mem_cons.mp hx with rfl | hx
  · exact ⟨g0, hc⟩
  · have h1 := (A.c x (List.mem_cons_of_mem _ hx)).1
    have h2 : x.2.on G H x.1 := (A.c x (List.mem_cons_of_mem _ hx)).2
    exact ⟨h1, h2.to (Same.refl G) (upd_ne (ne x hx))⟩
/-- the first cell lasts from here on -/
theorem At.keep {G H : Hp} {M : Cells} {p : Addr} {c : CD} {o : HO} (A : At G ((p, c) :: M) H) (ho : H p = some o) : Same G (upd G p o) ∧ At (upd G p o) M H := by
  have g0 := (A.c _ List.mem_cons_self).1
  have nd := List.nodup_cons.mp A.d
  have ne : ∀ x ∈ M, x.1 ≠ p := fun x hx e => nd.1 (by show p ∈ M.map Prod.fst; rw [← e]; exact List.mem_map_of_mem hx)
  have e : Same G (upd G p o) := fun b u h => by rw [upd_ne (ne_of_none h g0)]; exact h
  refine ⟨e, fun b u h => ?_, fun x hx => ?_, nd.2⟩
  · by_cases hb : b = p
    · subst hb; rw [upd_same] at h; rw [ho]; exact h
    · rw [upd_ne hb] at h; exact A.g b u h
  · have h1 := (A.c x (List.mem_cons_of_mem _ hx)).1
    have h2 : x.2.on G H x.1 := (A.c x (List.mem_cons_of_mem _ hx)).2
    exact ⟨by rw [upd_ne (ne x hx)]; exact h1, h2.to e rfl⟩
theorem At.putL {G H : Hp} {M : Cells} {p : Addr} {c : CD} {ps : List Pr} {vs : List V} (A : At G ((p, c) :: M) H) (h : Als G ps vs) : At G ((p, .lst ps) :: M) (upd H p (.lst vs)) :=
  A.put (c' := .lst ps) (show ∃ ws, upd H p (.lst vs) p = some (.lst ws) ∧ Als G ps ws from ⟨vs, upd_same, h⟩)
theorem At.newL {G H : Hp} {M : Cells} {p : Addr} {ps : List Pr} {vs : List V} (A : At G M H) (hp : H p = none) (h : Als G ps vs) : At G ((p, .lst ps) :: M) (upd H p (.lst vs)) :=
  A.newM (c := .lst ps) hp (show ∃ ws, upd H p (.lst vs) p = some (.lst ws) ∧ Als G ps ws from ⟨vs, upd_same, h⟩)
theorem At.keepL {G H : Hp} {M : Cells} {p : Addr} {ps : List Pr} (A : At G ((p, .lst ps) :: M) H) : ∃ G', Same G G' ∧ At G' M H ∧ (pL ps).h (.ref p) G' := by
  obtain ⟨vs, h1, h2⟩ := A.head
  obtain ⟨e, A'⟩ := A.keep h1
  exact ⟨_, e, A', p, vs, rfl, upd_same, h2.m e⟩
theorem At.keepO {G H : Hp} {M : Cells} {p C : Addr} {fs : List (Str × Pr)} (A : At G ((p, .ins C fs) :: M) H) : ∃ G', Same G G' ∧ At G' M H ∧ (pO C fs).h (.ref p) G' := by
  obtain ⟨dx, vs, h1, h2⟩ := A.head
  obtain ⟨e, A'⟩ := A.keep h1
  exact ⟨_, e, A', p, dx, vs, rfl, upd_same, h2.m e⟩
end Sg
namespace Sg
open PySem PySem.Spec L2

/-! ### what evaluates to what -/
def Ev (te : TE) (σ : St) (G : Hp) (M M' : Cells) (φ : Pr) : Prop := ∀ G1 H, Same G G1 → At G1 M H → ∀ Q : VK, (∀ v G' H', Same G1 G' → At G' M' H' → φ.h v G' → Q v H') → te σ H Q
/-- a new list, owned -/
def EvO (te : TE) (σ : St) (G : Hp) (M M' : Cells) (ps : List Pr) : Prop := ∀ G1 H, Same G G1 → At G1 M H → ∀ Q : VK, (∀ p G' H', Same G1 G' → At G' ((p, .lst ps) :: M') H' → Q (.ref p) H') → te σ H Q
def EvA (ta : TA) (σ : St) (G : Hp) (M M' : Cells) (ps : List Pr) : Prop := ∀ G1 H, Same G G1 → At G1 M H → ∀ Q : List V → Hp → Prop, (∀ vs G' H', Same G1 G' → At G' M' H' → Als G' ps vs → Q vs H') → ta σ H Q
def EvT (tt : TT) (σ : St) (G : Hp) (M M' : Cells) (b : Bool) : Prop := ∀ G1 H, Same G G1 → At G1 M H → ∀ Q : Bool → Hp → Prop, (∀ G' H', Same G1 G' → At G' M' H' → Q b H') → tt σ H Q
def EvB (to : TO) (σ : St) (G : Hp) (M M' : Cells) (o : Option Int) : Prop := ∀ G1 H, Same G G1 → At G1 M H → ∀ Q : Option Int → Hp → Prop, (∀ G' H', Same G1 G' → At G' M' H' → Q o H') → to σ H Q
section
variable {K : PySem.W.Frag} {σ : St} {G G0 : Hp} {M M1 M2 M3 N : Cells} {φ ψ : Pr} {ps qs : List Pr} {ta tb te tx : TE} {t u : TT} {x y z : V} {r : R2} {i : Nat}
theorem Ev.mono (e : Same G0 G) (h : Ev te σ G0 M M1 φ) : Ev te σ G M M1 φ := fun G1 H a A Q k => h G1 H (e.trans a) A Q k
theorem EvO.mono (e : Same G0 G) (h : EvO te σ G0 M M1 ps) : EvO te σ G M M1 ps := fun G1 H a A Q k => h G1 H (e.trans a) A Q k
theorem EvT.mono {b : Bool} (e : Same G0 G) (h : EvT t σ G0 M M1 b) : EvT t σ G M M1 b := fun G1 H a A Q k => h G1 H (e.trans a) A Q k
theorem Ev.imp (h : Ev te σ G M M1 φ) (q : ∀ v G', Same G G' → φ.h v G' → ψ.h v G') : Ev te σ G M M1 ψ := fun G1 H a A Q k => h G1 H a A Q fun v G' H' e A' hv => k v G' H' e A' (q v G' (a.trans e) hv)
theorem Ev.is {x y : V} (h : Ev te σ G M M1 (pV x)) (e : x = y) : Ev te σ G M M1 (pV y) := e ▸ h
theorem EvT.is {a b : Bool} (h : EvT t σ G M M1 a) (e : a = b) : EvT t σ G M M1 b := e ▸ h
theorem Ev.perm (p : M.Perm N) (h : Ev te σ G N M1 φ) : Ev te σ G M M1 φ := fun G1 H a A Q k => h G1 H a (A.perm p) Q k
theorem Ev.permR (p : M1.Perm N) (h : Ev te σ G M M1 φ) : Ev te σ G M N φ := fun G1 H a A Q k => h G1 H a A Q fun v G' H' e A' => k v G' H' e (A'.perm p)
theorem ev_var (hs : σ[i]? = some (some x)) (hv : φ.h x G) : Ev (tVar i) σ G M M φ := fun G1 H e A Q k => ⟨x, hs, k x G1 H (Same.refl _) A (φ.m e hv)⟩
theorem ev_varV (hs : σ[i]? = some (some x)) : Ev (tVar i) σ G M M (pV x) := ev_var hs rfl
theorem ev_c : Ev (tC x) σ G M M (pV x) := fun G1 H e A Q k => k x G1 H (Same.refl _) A rfl
theorem ev_cP (hv : φ.h x G) : Ev (tC x) σ G M M φ := fun G1 H e A Q k => k x G1 H (Same.refl _) A (φ.m e hv)
/-- a two-place operation on scalars -/
theorem ev_rv (ha : Ev ta σ G M M1 (pV x)) (hb : Ev tb σ G M1 M2 (pV y)) (hr : ∀ (Q : VK) (H : Hp), Q z H → r x y H Q) : Ev (tOp r ta tb) σ G M M2 (pV z) := fun G1 H e A Q k =>
  ha G1 H e A _ fun v G2 H2 e2 A2 hx => hb G2 H2 (e.trans e2) A2 _ fun w G3 H3 e3 A3 hy => by
    cases (show v = x from hx); cases (show w = y from hy)
    exact hr Q H3 (k z G3 H3 (e2.trans e3) A3 rfl)
theorem ev_I0 {g : Int → Int → V} {m n : Int} (ha : Ev ta σ G M M1 (pI m)) (hb : Ev tb σ G M1 M2 (pI n)) : Ev (tOp (rI0 g) ta tb) σ G M M2 (pV (g m n)) := ev_rv ha hb fun _ _ q => ⟨m, n, rfl, rfl, q⟩
theorem ev_I {C : Int → Int → Prop} {g : Int → Int → V} {m n : Int} (ha : Ev ta σ G M M1 (pI m)) (hb : Ev tb σ G M1 M2 (pI n)) (hc : C m n) : Ev (tOp (rI C g) ta tb) σ G M M2 (pV (g m n)) := ev_rv ha hb fun _ _ q => ⟨m, n, rfl, rfl, hc, q⟩
theorem ev_eq (ha : Ev ta σ G M M1 (pV x)) (hb : Ev tb σ G M1 M2 (pV y)) (h : scal x y = true := by rfl) : Ev (tOp rEq ta tb) σ G M M2 (pB (decide (x = y))) := ev_rv ha hb fun _ _ q => ⟨h, q⟩
theorem ev_ne (ha : Ev ta σ G M M1 (pV x)) (hb : Ev tb σ G M1 M2 (pV y)) (h : scal x y = true := by rfl) : Ev (tOp rNe ta tb) σ G M M2 (pB (!decide (x = y))) := ev_rv ha hb fun _ _ q => ⟨h, q⟩
theorem ev_un {ru : V → Hp → VK → Prop} (ha : Ev ta σ G M M1 (pV x)) (hr : ∀ (Q : VK) (H : Hp), Q z H → ru x H Q) : Ev (tUn ru ta) σ G M M1 (pV z) := fun G1 H e A Q k =>
  ha G1 H e A _ fun v G2 H2 e2 A2 hx => by
    cases (show v = x from hx)
    exact hr Q H2 (k z G2 H2 e2 A2 rfl)
theorem ev_neg {n : Int} (ha : Ev ta σ G M M1 (pI n)) : Ev (tUn (rU fun i => .int (-i)) ta) σ G M M1 (pI (-n)) := ev_un ha fun _ _ q => ⟨n, rfl, q⟩
/-- two values known by what is said of them -/
theorem ev_op (ha : Ev ta σ G M M1 φ) (hb : Ev tb σ G M1 M2 ψ) {χ : Pr} (hr : ∀ v w G' H, Same G G' → At G' M2 H → φ.h v G' → ψ.h w G' → ∀ Q : VK, (∀ z G2 H2, Same G' G2 → At G2 M3 H2 → χ.h z G2 → Q z H2) → r v w H Q) : Ev (tOp r ta tb) σ G M M3 χ := fun G1 H e A Q k =>
  ha G1 H e A _ fun v G2 H2 e2 A2 hx => hb G2 H2 (e.trans e2) A2 _ fun w G3 H3 e3 A3 hy => hr v w G3 H3 ((e.trans e2).trans e3) A3 (φ.m e3 hx) hy Q fun z G4 H4 e4 => k z G4 H4 ((e2.trans e3).trans e4)
/-! items -/
theorem als_atI {G : Hp} {vs : List V} {p : Pr} {j : Int} (h : Als G ps vs) (e : atI ps j = some p) : ∃ v, atI vs j = some v ∧ p.h v G := by
  unfold atI at e ⊢
  rw [h.len]
  cases q : ixN ps.length j with
  | none => rw [q] at e; cases e
  | some k =>
    rw [q] at e
    exact h.get e
theorem at0 {α : Type} {xs : List α} {n : Nat} {v : α} (h : xs[n]? = some v) : atI xs (n : Int) = some v := atI_nat h
theorem ev_ixQ {j : Int} (ha : Ev ta σ G M M1 (pQ K ps)) (hb : Ev tb σ G M1 M2 (pI j)) (hj : atI ps j = some φ) : Ev (tOp (rIxL K) ta tb) σ G M M2 φ := ev_op ha hb fun v w G' H _ A ⟨a, vs, hv, hs, hal⟩ hw Q k => by
  obtain ⟨z, hz, hp⟩ := als_atI hal hj
  exact ⟨a, vs, j, z, hv, hw, same_sq A.g hs, hz, k z G' H (Same.refl _) A hp⟩
theorem ev_ixL {j : Int} (ha : Ev ta σ G M M1 (pL ps)) (hb : Ev tb σ G M1 M2 (pI j)) (hj : atI ps j = some φ) : Ev (tOp (rIxL K) ta tb) σ G M M2 φ := ev_ixQ (ha.imp fun _ _ _ h => pL_q h) hb hj
theorem ev_ixT {j : Int} (ha : Ev ta σ G M M1 (pT K ps)) (hb : Ev tb σ G M1 M2 (pI j)) (hj : atI ps j = some φ) : Ev (tOp (rIxT K) ta tb) σ G M M2 φ := ev_op ha hb fun v w G' H _ A ⟨a, vs, hv, hs, hal⟩ hw Q k => by
  obtain ⟨z, hz, hp⟩ := als_atI hal hj
  exact ⟨a, vs, j, z, hv, hw, same_sqT A.g hs, hz, k z G' H (Same.refl _) A hp⟩
theorem At.lst {G H : Hp} {M : Cells} {p : Addr} {ps : List Pr} (A : At G M H) (hm : (p, CD.lst ps) ∈ M) : ∃ vs, H p = some (.lst vs) ∧ Als G ps vs := (A.c _ hm).2
/-- .. of an owned list -/
theorem ev_ixM {j : Int} {p : Addr} (ha : Ev ta σ G M M1 (pV (.ref p))) (hb : Ev tb σ G M1 M2 (pI j)) (hm : (p, CD.lst ps) ∈ M2) (hj : atI ps j = some φ) : Ev (tOp (rIxL K) ta tb) σ G M M2 φ := ev_op ha hb fun v w G' H _ A hv hw Q k => by
  obtain ⟨vs, h1, hal⟩ := A.lst hm
  obtain ⟨z, hz, hp⟩ := als_atI hal hj
  exact ⟨p, vs, j, z, hv, hw, SqL.of h1, hz, k z G' H (Same.refl _) A hp⟩
/-- .. where the right item is any -/
theorem ev_ixS {s : Str} {j : Int} {c : Nat} (ha : Ev ta σ G M M1 (pS s)) (hb : Ev tb σ G M1 M2 (pI j)) (hz : s.length ≤ sizeLine) (hj : atI s.cps.toList j = some c) : Ev (tOp rIxS ta tb) σ G M M2 (pS ⟨#[c]⟩) := ev_rv ha hb fun _ _ q => ⟨s, j, c, rfl, rfl, hz, hj, q⟩
/-! displays -/
theorem ea_nil : EvA tNil σ G M M [] := fun G1 H e A Q k => k [] G1 H (Same.refl _) A trivial
theorem ea_cons {tr : TA} (h : Ev ta σ G M M1 φ) (hr : EvA tr σ G M1 M2 ps) : EvA (tCons ta tr) σ G M M2 (φ :: ps) := fun G1 H e A Q k =>
  h G1 H e A _ fun v G2 H2 e2 A2 hv => hr G2 H2 (e.trans e2) A2 _ fun vs G3 H3 e3 A3 hvs => k (v :: vs) G3 H3 (e2.trans e3) A3 ⟨φ.m e3 hv, hvs⟩
theorem small_sz {n : Nat} (h : n ≤ 100000) : n ≤ sizeLine := Nat.le_trans h (by decide)
theorem ev_tup {tr : TA} (h : EvA tr σ G M M1 ps) (hl : Nat.ble ps.length 100000 = true := by rfl) : Ev (tTup tr) σ G M M1 (pT K ps) := fun G1 H e A Q k =>
  h G1 H e A _ fun vs G2 H2 e2 A2 hvs => ⟨by rw [hvs.len]; exact small_sz (Nat.le_of_ble_eq_true hl), fun p hp => by
    obtain ⟨e3, A3⟩ := A2.newG (.tup vs) hp
    exact k (.ref p) _ _ (e2.trans e3) A3 ⟨p, vs, rfl, SqT.of upd_same, hvs.m e3⟩⟩
theorem eo_lst {tr : TA} (h : EvA tr σ G M M1 ps) (hl : Nat.ble ps.length 100000 = true := by rfl) : EvO (tLst tr) σ G M M1 ps := fun G1 H e A Q k =>
  h G1 H e A _ fun vs G2 H2 e2 A2 hvs => ⟨by rw [hvs.len]; exact small_sz (Nat.le_of_ble_eq_true hl), fun p hp => k p G2 _ e2 (A2.newM hp ⟨vs, upd_same, hvs⟩)⟩
/-- a new list that stays as it is -/
theorem EvO.keep (h : EvO te σ G M M1 ps) : Ev te σ G M M1 (pL ps) := fun G1 H e A Q k => h G1 H e A Q fun p G2 H2 e2 A2 => by
  obtain ⟨G3, e3, A3, h3⟩ := A2.keepL
  exact k (.ref p) G3 H2 (e2.trans e3) A3 h3
/-- a new list that is read and dropped: its items -/
theorem ev_ixO {j : Int} (ha : EvO ta σ G M M1 ps) (hb : Ev tb σ G M1 M2 (pI j)) (hj : atI ps j = some φ) : Ev (tOp (rIxL K) ta tb) σ G M M2 φ := ev_ixL ha.keep hb hj
/-! calls of built-ins -/
theorem ev_cb {rc : List V → Hp → VK → Prop} {tr : TA} {χ : Pr} (ha : EvA tr σ G M M1 ps) (hr : ∀ vs G' H, Same G G' → At G' M1 H → Als G' ps vs → ∀ Q : VK, (∀ z G2 H2, Same G' G2 → At G2 M2 H2 → χ.h z G2 → Q z H2) → rc vs H Q) : Ev (tCB rc tr) σ G M M2 χ := fun G1 H e A Q k =>
  ha G1 H e A _ fun vs G2 H2 e2 A2 hvs => hr vs G2 H2 (e.trans e2) A2 hvs Q fun z G3 H3 e3 => k z G3 H3 (e2.trans e3)
theorem ev_cb1 {rc : List V → Hp → VK → Prop} {χ : Pr} (ha : Ev ta σ G M M1 φ) (hr : ∀ v G' H, Same G G' → At G' M1 H → φ.h v G' → ∀ Q : VK, (∀ z G2 H2, Same G' G2 → At G2 M2 H2 → χ.h z G2 → Q z H2) → rc [v] H Q) : Ev (tCB rc (tCons ta tNil)) σ G M M2 χ :=
  ev_cb (ea_cons ha ea_nil) fun vs G' H e A hvs Q k => by
    match vs, hvs with
    | [v], ⟨h1, _⟩ => exact hr v G' H e A h1 Q k
/-- scalars in, a scalar out -/
theorem ev_cbV {rc : List V → Hp → VK → Prop} (ha : Ev ta σ G M M1 (pV x)) (hr : ∀ (Q : VK) (H : Hp), Q z H → rc [x] H Q) : Ev (tCB rc (tCons ta tNil)) σ G M M1 (pV z) := ev_cb1 ha fun v G' H e A hv Q k => by
  cases (show v = x from hv)
  exact hr Q H (k z G' H (Same.refl _) A rfl)
theorem ev_cbV2 {rc : List V → Hp → VK → Prop} (ha : Ev ta σ G M M1 (pV x)) (hb : Ev tb σ G M1 M2 (pV y)) (hr : ∀ (Q : VK) (H : Hp), Q z H → rc [x, y] H Q) : Ev (tCB rc (tCons ta (tCons tb tNil))) σ G M M2 (pV z) :=
  ev_cb (ea_cons ha (ea_cons hb ea_nil)) fun vs G' H e A hvs Q k => by
    match vs, hvs with
    | [v, w], ⟨h1, h2, _⟩ =>
      cases (show v = x from h1); cases (show w = y from h2)
      exact hr Q H (k z G' H (Same.refl _) A rfl)
/-! tests -/
theorem et_test {b : Bool} (h : Ev te σ G M M1 (pB b)) : EvT (tTest te) σ G M M1 b := fun G1 H e A Q k => h G1 H e A _ fun v G2 H2 e2 A2 hv => ⟨b, hv, k G2 H2 e2 A2⟩
theorem et_B {b : Bool} (h : Ev te σ G M M1 (pB b)) : EvT (tB te) σ G M M1 b := fun G1 H e A Q k => h G1 H e A _ fun v G2 H2 e2 A2 hv => ⟨b, hv, k G2 H2 e2 A2⟩
theorem et_and {a b : Bool} (h1 : EvT t σ G M M1 a) (h2 : a = true → EvT u σ G M1 M1 b) : EvT (tAnd t u) σ G M M1 (a && b) := fun G1 H e A Q k => h1 G1 H e A _ fun G2 H2 e2 A2 => by
  cases a with
  | true =>
    show u σ H2 Q
    exact h2 rfl G2 H2 (e.trans e2) A2 Q fun G3 H3 e3 => k G3 H3 (e2.trans e3)
  | false =>
    show Q false H2
    exact k G2 H2 e2 A2
theorem et_andM {a b : Bool} (h1 : EvT t σ G M M1 a) (h2 : a = true → EvT u σ G M1 M2 b) : EvT (tAnd t u) σ G M (if a = true then M2 else M1) (a && b) := fun G1 H e A Q k => h1 G1 H e A _ fun G2 H2 e2 A2 => by
  cases a with
  | true =>
    show u σ H2 Q
    exact h2 rfl G2 H2 (e.trans e2) A2 Q fun G3 H3 e3 A3 => k G3 H3 (e2.trans e3) A3
  | false =>
    show Q false H2
    exact k G2 H2 e2 A2
theorem et_or {a b : Bool} (h1 : EvT t σ G M M1 a) (h2 : a = false → EvT u σ G M1 M1 b) : EvT (tOr t u) σ G M M1 (a || b) := fun G1 H e A Q k => h1 G1 H e A _ fun G2 H2 e2 A2 => by
  cases a with
  | true =>
    show Q true H2
    exact k G2 H2 e2 A2
  | false =>
    show u σ H2 Q
    exact h2 rfl G2 H2 (e.trans e2) A2 Q fun G3 H3 e3 => k G3 H3 (e2.trans e3)
theorem et_not {a : Bool} (h1 : EvT t σ G M M1 a) : EvT (tNot t) σ G M M1 (!a) := fun G1 H e A Q k => h1 G1 H e A _ fun G2 H2 e2 A2 => k G2 H2 e2 A2
theorem ev_andV {a b : Bool} (h1 : Ev ta σ G M M1 (pB a)) (h2 : a = true → Ev tb σ G M1 M1 (pB b)) : Ev (tAndV ta tb) σ G M M1 (pB (a && b)) := fun G1 H e A Q k => h1 G1 H e A _ fun v G2 H2 e2 A2 hv => ⟨a, hv, by
  cases a with
  | true =>
    show tb σ H2 Q
    exact h2 rfl G2 H2 (e.trans e2) A2 Q fun v G3 H3 e3 => k v G3 H3 (e2.trans e3)
  | false =>
    show Q (.bl false) H2
    exact k _ G2 H2 e2 A2 rfl⟩
theorem ev_orV {a b : Bool} (h1 : Ev ta σ G M M1 (pB a)) (h2 : a = false → Ev tb σ G M1 M1 (pB b)) : Ev (tOrV ta tb) σ G M M1 (pB (a || b)) := fun G1 H e A Q k => h1 G1 H e A _ fun v G2 H2 e2 A2 hv => ⟨a, hv, by
  cases a with
  | true =>
    show Q (.bl true) H2
    exact k _ G2 H2 e2 A2 rfl
  | false =>
    show tb σ H2 Q
    exact h2 rfl G2 H2 (e.trans e2) A2 Q fun v G3 H3 e3 => k v G3 H3 (e2.trans e3)⟩
theorem ev_notV {a : Bool} (h1 : Ev ta σ G M M1 (pB a)) : Ev (tNotV ta) σ G M M1 (pB (!a)) := fun G1 H e A Q k => h1 G1 H e A _ fun v G2 H2 e2 A2 hv => ⟨a, hv, k _ G2 H2 e2 A2 rfl⟩
theorem ev_ifE {b : Bool} (h : EvT t σ G M M1 b) (h1 : b = true → Ev ta σ G M1 M2 φ) (h2 : b = false → Ev tb σ G M1 M2 φ) : Ev (tIf t ta tb) σ G M M2 φ := fun G1 H e A Q k => h G1 H e A _ fun G2 H2 e2 A2 => by
  cases b with
  | true =>
    show ta σ H2 Q
    exact h1 rfl G2 H2 (e.trans e2) A2 Q fun v G3 H3 e3 => k v G3 H3 (e2.trans e3)
  | false =>
    show tb σ H2 Q
    exact h2 rfl G2 H2 (e.trans e2) A2 Q fun v G3 H3 e3 => k v G3 H3 (e2.trans e3)
/-- a op b op' c of ints -/
theorem ev_chain {r' : R2} {tc : TE} {a b c : V} {k1 k2 : Bool} (ha : Ev ta σ G M M (pV a)) (hb : Ev tb σ G M M (pV b)) (hc : Ev tc σ G M M (pV c)) (h1 : ∀ (Q : VK) (H : Hp), Q (.bl k1) H → r a b H Q) (h2 : ∀ (Q : VK) (H : Hp), Q (.bl k2) H → r' b c H Q) :
    Ev (tChain r r' ta tb tc) σ G M M (pB (k1 && k2)) := fun G1 H e A Q k => ha G1 H e A _ fun v G2 H2 e2 A2 hv => hb G2 H2 (e.trans e2) A2 _ fun w G3 H3 e3 A3 hw => by
  cases (show v = a from hv); cases (show w = b from hw)
  refine h1 _ H3 ⟨k1, rfl, ?_⟩
  cases k1 with
  | true =>
    show tc σ H3 fun w' H4 => r' b w' H4 Q
    exact hc G3 H3 ((e.trans e2).trans e3) A3 _ fun z G4 H4 e4 A4 hz => by
      cases (show z = c from hz)
      exact h2 Q H4 (k _ G4 H4 ((e2.trans e3).trans e4) A4 rfl)
  | false =>
    show Q (.bl false) H3
    exact k _ G3 H3 (e2.trans e3) A3 rfl
end

/-! ### statements -/
structure Out where
  nx : St → Hp → Cells → Prop
  rt : V → Hp → Cells → Prop
  bk : St → Hp → Cells → Prop := fun _ _ _ => False
  ct : St → Hp → Cells → Prop := fun _ _ _ => False
structure Dok (O : Out) (G : Hp) (D : Ends) : Prop where
  nx : ∀ σ G' M H, Same G G' → At G' M H → O.nx σ G' M → D.nx σ H
  rt : ∀ v G' M H, Same G G' → At G' M H → O.rt v G' M → D.rt v H
  bk : ∀ σ G' M H, Same G G' → At G' M H → O.bk σ G' M → D.bk σ H
  ct : ∀ σ G' M H, Same G G' → At G' M H → O.ct σ G' M → D.ct σ H
theorem Dok.m {O : Out} {G G1 : Hp} {D : Ends} (d : Dok O G D) (e : Same G G1) : Dok O G1 D :=
  ⟨fun σ G' M H a => d.nx σ G' M H (e.trans a), fun v G' M H a => d.rt v G' M H (e.trans a), fun σ G' M H a => d.bk σ G' M H (e.trans a), fun σ G' M H a => d.ct σ G' M H (e.trans a)⟩
def Sm (ts : TS) (σ : St) (G : Hp) (M : Cells) (O : Out) : Prop := ∀ G1 H, Same G G1 → At G1 M H → ∀ D : Ends, Dok O G1 D → ts D σ H
section
variable {K : PySem.W.Frag} {σ : St} {G G0 : Hp} {M M1 M2 M3 N : Cells} {φ ψ : Pr} {ps qs : List Pr} {ta tb te tx : TE} {t u : TT} {x y z : V} {i : Nat} {O : Out} {tu tw tz : TS}
theorem Sm.mono (e : Same G0 G) (h : Sm tu σ G0 M O) : Sm tu σ G M O := fun G1 H a A D d => h G1 H (e.trans a) A D d
theorem Sm.perm (p : M.Perm N) (h : Sm tu σ G N O) : Sm tu σ G M O := fun G1 H a A D d => h G1 H a (A.perm p) D d
theorem Sm.seq (h : Sm tu σ G M { O with nx := fun σ' G' M' => Sm tz σ' G' M' O }) : Sm (tSeq tu tz) σ G M O := fun G1 H a A D d =>
  h G1 H a A { D with nx := tz D } ⟨fun σ' G' M' H' e A' s => s G' H' (Same.refl _) A' D (d.m e), d.rt, d.bk, d.ct⟩
/-- a statement, then the rest, from a word between them -/
theorem Sm.out {O' : Out} (h : Sm tu σ G M O') (hn : ∀ σ' G' M', Same G G' → O'.nx σ' G' M' → O.nx σ' G' M') (hr : ∀ v G' M', Same G G' → O'.rt v G' M' → O.rt v G' M') (hb : ∀ σ' G' M', Same G G' → O'.bk σ' G' M' → O.bk σ' G' M') (hc : ∀ σ' G' M', Same G G' → O'.ct σ' G' M' → O.ct σ' G' M') : Sm tu σ G M O := fun G1 H a A D d =>
  h G1 H a A D ⟨fun σ' G' M' H' e A' s => d.nx σ' G' M' H' e A' (hn _ _ _ (a.trans e) s), fun v G' M' H' e A' s => d.rt v G' M' H' e A' (hr _ _ _ (a.trans e) s), fun σ' G' M' H' e A' s => d.bk σ' G' M' H' e A' (hb _ _ _ (a.trans e) s), fun σ' G' M' H' e A' s => d.ct σ' G' M' H' e A' (hc _ _ _ (a.trans e) s)⟩
/-- the first owned list stays as it is from here on -/
theorem Sm.keepL {p : Addr} (h : ∀ G1, Same G G1 → (pL ps).h (.ref p) G1 → Sm tu σ G1 M O) : Sm tu σ G ((p, .lst ps) :: M) O := fun G1 H a A D d => by
  obtain ⟨G2, e2, A2, h2⟩ := A.keepL
  exact h G2 (a.trans e2) h2 G2 H (Same.refl _) A2 D (d.m e2)
theorem Sm.drop {c : Addr × CD} (h : Sm tu σ G M O) : Sm tu σ G (c :: M) O := fun G1 H a A D d => h G1 H a A.tail D d
theorem s_next (k : ∀ G1, Same G G1 → O.nx σ G1 M) : Sm tNext σ G M O := fun G1 H a A D d => d.nx σ G1 M H (Same.refl _) A (k G1 a)
theorem s_break (k : ∀ G1, Same G G1 → O.bk σ G1 M) : Sm tBreak σ G M O := fun G1 H a A D d => d.bk σ G1 M H (Same.refl _) A (k G1 a)
theorem s_cont (k : ∀ G1, Same G G1 → O.ct σ G1 M) : Sm tCont σ G M O := fun G1 H a A D d => d.ct σ G1 M H (Same.refl _) A (k G1 a)
/-! name = e -/
theorem s_set (h : Ev te σ G M M1 φ) (k : ∀ v G1, Same G G1 → φ.h v G1 → O.nx (σ.set i (some v)) G1 M1) : Sm (tAsg te (gName i)) σ G M O := fun G1 H a A D d =>
  h G1 H a A _ fun v G2 H2 e2 A2 hv => d.nx _ G2 M1 H2 e2 A2 (k v G2 (a.trans e2) hv)
theorem s_setO (h : EvO te σ G M M1 ps) (k : ∀ p G1, Same G G1 → O.nx (σ.set i (some (.ref p))) G1 ((p, .lst ps) :: M1)) : Sm (tAsg te (gName i)) σ G M O := fun G1 H a A D d =>
  h G1 H a A _ fun p G2 H2 e2 A2 => d.nx _ G2 _ H2 e2 A2 (k p G2 (a.trans e2))
theorem q_set (h : Ev te σ G M M1 φ) (k : ∀ v G1, Same G G1 → φ.h v G1 → Sm tz (σ.set i (some v)) G1 M1 O) : Sm (tSeq (tAsg te (gName i)) tz) σ G M O := Sm.seq (s_set h k)
theorem q_setV (h : Ev te σ G M M1 (pV x)) (k : Sm tz (σ.set i (some x)) G M1 O) : Sm (tSeq (tAsg te (gName i)) tz) σ G M O := Sm.seq (s_set h fun v G1 e hv => by
  cases (show v = x from hv)
  exact k.mono e)
theorem q_setO (h : EvO te σ G M M1 ps) (k : ∀ p, Sm tz (σ.set i (some (.ref p))) G ((p, .lst ps) :: M1) O) : Sm (tSeq (tAsg te (gName i)) tz) σ G M O := Sm.seq (s_setO h fun p G1 e => (k p).mono e)
theorem s_ret (h : Ev te σ G M M1 φ) (k : ∀ v G1, Same G G1 → φ.h v G1 → O.rt v G1 M1) : Sm (tRet te) σ G M O := fun G1 H a A D d =>
  h G1 H a A _ fun v G2 H2 e2 A2 hv => d.rt v G2 M1 H2 e2 A2 (k v G2 (a.trans e2) hv)
theorem s_retO (h : EvO te σ G M M1 ps) (k : ∀ p G1, Same G G1 → O.rt (.ref p) G1 ((p, .lst ps) :: M1)) : Sm (tRet te) σ G M O := fun G1 H a A D d =>
  h G1 H a A _ fun p G2 H2 e2 A2 => d.rt _ G2 _ H2 e2 A2 (k p G2 (a.trans e2))
theorem s_retN (k : ∀ G1, Same G G1 → O.rt .non G1 M) : Sm tRetN σ G M O := fun G1 H a A D d => d.rt .non G1 M H (Same.refl _) A (k G1 a)
theorem s_drop (h : Ev te σ G M M1 φ) (k : ∀ G1, Same G G1 → O.nx σ G1 M1) : Sm (tDrop te) σ G M O := fun G1 H a A D d =>
  h G1 H a A _ fun v G2 H2 e2 A2 hv => d.nx σ G2 M1 H2 e2 A2 (k G2 (a.trans e2))
theorem q_drop (h : Ev te σ G M M1 φ) (k : Sm tz σ G M1 O) : Sm (tSeq (tDrop te) tz) σ G M O := Sm.seq (s_drop h fun G1 e => k.mono e)
theorem s_if {b : Bool} (h : EvT t σ G M M1 b) (h1 : b = true → Sm tu σ G M1 O) (h2 : b = false → Sm tw σ G M1 O) : Sm (tIfS t tu tw) σ G M O := fun G1 H a A D d => h G1 H a A _ fun G2 H2 e2 A2 => by
  cases b with
  | true =>
    show tu D σ H2
    exact h1 rfl G2 H2 (a.trans e2) A2 D (d.m e2)
  | false =>
    show tw D σ H2
    exact h2 rfl G2 H2 (a.trans e2) A2 D (d.m e2)
theorem q_if {b : Bool} (h : EvT t σ G M M1 b) (h1 : b = true → Sm tu σ G M1 { O with nx := fun σ' G' M' => Sm tz σ' G' M' O }) (h2 : b = false → Sm tw σ G M1 { O with nx := fun σ' G' M' => Sm tz σ' G' M' O }) : Sm (tSeq (tIfS t tu tw) tz) σ G M O := Sm.seq (s_if h h1 h2)
/-- if t and u, u with effects -/
theorem s_ifAM {a b : Bool} (h : EvT t σ G M M1 a) (h' : a = true → EvT u σ G M1 M2 b) (h11 : a = true → b = true → Sm tu σ G M2 O) (h10 : a = true → b = false → Sm tw σ G M2 O) (h0 : a = false → Sm tw σ G M1 O) : Sm (tIfS (tAnd t u) tu tw) σ G M O := fun G1 H e A D d => h G1 H e A _ fun G2 H2 e2 A2 => by
  cases a with
  | true =>
    show u σ H2 _
    exact h' rfl G2 H2 (e.trans e2) A2 _ fun G3 H3 e3 A3 => by
      cases b with
      | true =>
        show tu D σ H3
        exact h11 rfl rfl G3 H3 ((e.trans e2).trans e3) A3 D (d.m (e2.trans e3))
      | false =>
        show tw D σ H3
        exact h10 rfl rfl G3 H3 ((e.trans e2).trans e3) A3 D (d.m (e2.trans e3))
  | false =>
    show tw D σ H2
    exact h0 rfl G2 H2 (e.trans e2) A2 D (d.m e2)
theorem q_ifAM {a b : Bool} (h : EvT t σ G M M1 a) (h' : a = true → EvT u σ G M1 M2 b) (h11 : a = true → b = true → Sm tu σ G M2 { O with nx := fun σ' G' M' => Sm tz σ' G' M' O }) (h10 : a = true → b = false → Sm tw σ G M2 { O with nx := fun σ' G' M' => Sm tz σ' G' M' O }) (h0 : a = false → Sm tw σ G M1 { O with nx := fun σ' G' M' => Sm tz σ' G' M' O }) : Sm (tSeq (tIfS (tAnd t u) tu tw) tz) σ G M O := Sm.seq (s_ifAM h h' h11 h10 h0)
theorem q_whenAM {a b : Bool} (h : EvT t σ G M M1 a) (h' : a = true → EvT u σ G M1 M2 b) (h11 : a = true → b = true → Sm tu σ G M2 { O with nx := fun σ' G' M' => Sm tz σ' G' M' O }) (h10 : a = true → b = false → Sm tz σ G M2 O) (h0 : a = false → Sm tz σ G M1 O) : Sm (tSeq (tIfS (tAnd t u) tu tNext) tz) σ G M O :=
  q_ifAM h h' h11 (fun ha hb => s_next fun G1 e => (h10 ha hb).mono e) (fun ha => s_next fun G1 e => (h0 ha).mono e)
/-- if without else -/
theorem q_when {b : Bool} (h : EvT t σ G M M1 b) (h1 : b = true → Sm tu σ G M1 { O with nx := fun σ' G' M' => Sm tz σ' G' M' O }) (h2 : b = false → Sm tz σ G M1 O) : Sm (tSeq (tIfS t tu tNext) tz) σ G M O := q_if h h1 fun hb => s_next fun G1 e => (h2 hb).mono e
theorem s_when {b : Bool} (h : EvT t σ G M M1 b) (h1 : b = true → Sm tu σ G M1 O) (h2 : b = false → ∀ G1, Same G G1 → O.nx σ G1 M1) : Sm (tIfS t tu tNext) σ G M O := s_if h h1 fun hb => s_next (h2 hb)
/-- xs[i] = e, xs owned and first -/
theorem s_put {p : Addr} {j : Int} {n : Nat} (h : Ev te σ G M M1 φ) (ho : Ev ta σ G M1 M2 (pV (.ref p))) (hi : Ev tb σ G M2 ((p, .lst ps) :: M3) (pI j)) (hj : ixN ps.length j = some n) (k : ∀ G1, Same G G1 → O.nx σ G1 ((p, .lst (ps.set n φ)) :: M3)) :
    Sm (tAsg te (gSub ta tb rSetL)) σ G M O := fun G1 H a A D d => h G1 H a A _ fun v G2 H2 e2 A2 hv => ho G2 H2 (a.trans e2) A2 _ fun w G3 H3 e3 A3 hw => hi G3 H3 ((a.trans e2).trans e3) A3 _ fun w2 G4 H4 e4 A4 hw2 => by
  cases (show w = .ref p from hw); cases (show w2 = .int j from hw2)
  obtain ⟨vs, h1, hal⟩ := A4.head
  refine ⟨p, vs, j, n, rfl, rfl, h1, by rw [hal.len]; exact hj, ?_⟩
  exact d.nx σ G4 _ _ ((e2.trans e3).trans e4) (A4.putL (hal.set (φ.m (e3.trans e4) hv) n)) (k G4 (((a.trans e2).trans e3).trans e4))
theorem q_put {p : Addr} {j : Int} {n : Nat} (h : Ev te σ G M M1 φ) (ho : Ev ta σ G M1 M2 (pV (.ref p))) (hi : Ev tb σ G M2 ((p, .lst ps) :: M3) (pI j)) (hj : ixN ps.length j = some n) (k : ∀ G1, Same G G1 → Sm tz σ G1 ((p, .lst (ps.set n φ)) :: M3) O) :
    Sm (tSeq (tAsg te (gSub ta tb rSetL)) tz) σ G M O := Sm.seq (s_put h ho hi hj k)
/-- xs.append(e), xs owned and first behind e -/
theorem s_app {p : Addr} (ho : Ev ta σ G M M1 (pV (.ref p))) {qs : List Pr} (hm : (p, CD.lst qs) ∈ M1) (he : Ev te σ G M1 ((p, .lst ps) :: M2) φ) (hz : ps.length < 100000) (k : ∀ G1, Same G G1 → O.nx σ G1 ((p, .lst (ps ++ [φ])) :: M2)) :
    Sm (tDrop (tBM K "list" rAppend ta (tCons te tNil))) σ G M O := fun G1 H a A D d => ho G1 H a A _ fun w G2 H2 e2 A2 hw => by
  cases (show w = .ref p from hw)
  obtain ⟨us, hu, _⟩ := A2.lst hm
  refine ⟨.inl ⟨rfl, us, SqL.of hu⟩, he G2 H2 (a.trans e2) A2 _ fun v G3 H3 e3 A3 hv => ?_⟩
  obtain ⟨vs, h1, hal⟩ := A3.head
  refine ⟨p, vs, v, rfl, rfl, h1, by rw [hal.len]; exact Nat.lt_of_lt_of_le hz (by decide), ?_⟩
  exact d.nx σ G3 _ _ (e2.trans e3) (A3.putL (hal.app (qs := [φ]) (ws := [v]) (Als.cons hv Als.nil))) (k G3 ((a.trans e2).trans e3))
theorem q_app {p : Addr} (ho : Ev ta σ G M M1 (pV (.ref p))) {qs : List Pr} (hm : (p, CD.lst qs) ∈ M1) (he : Ev te σ G M1 ((p, .lst ps) :: M2) φ) (hz : ps.length < 100000) (k : ∀ G1, Same G G1 → Sm tz σ G1 ((p, .lst (ps ++ [φ])) :: M2) O) :
    Sm (tSeq (tDrop (tBM K "list" rAppend ta (tCons te tNil))) tz) σ G M O := Sm.seq (s_app ho hm he hz k)
/-! targets -/
/-- a value of which φ is said goes to the target: the places behind it -/
def Ag (g : TG) (φ : Pr) (σ : St) (G : Hp) (B : St → Prop) : Prop := ∀ v H, Same G H → φ.h v G → ∀ Q : St → Hp → Prop, (∀ σ', B σ' → Q σ' H) → g v σ H Q
def Ags (g : TGs) (ps : List Pr) (σ : St) (G : Hp) (B : St → Prop) : Prop := ∀ vs H, Same G H → Als G ps vs → ∀ Q : St → Hp → Prop, (∀ σ', B σ' → Q σ' H) → g vs σ H Q
theorem ag_name {B : St → Prop} (h : ∀ v, φ.h v G → B (σ.set i (some v))) : Ag (gName i) φ σ G B := fun v H _ hv Q k => k _ (h v hv)
theorem ag_nameV {B : St → Prop} (h : B (σ.set i (some x))) : Ag (gName i) (pV x) σ G B := fun v H _ hv Q k => by
  cases (show v = x from hv)
  exact k _ h
theorem ags_nil {B : St → Prop} (h : B σ) : Ags gNil [] σ G B := fun vs H _ hv Q k => by
  cases vs with
  | nil => exact ⟨rfl, k σ h⟩
  | cons _ _ => exact hv.elim
theorem ags_cons {B : St → Prop} {g : TG} {gs : TGs} (h : Ag g φ σ G fun σ1 => Ags gs ps σ1 G B) : Ags (gCons g gs) (φ :: ps) σ G B := fun vs H e hv Q k => by
  cases vs with
  | nil => exact hv.elim
  | cons v vs => exact ⟨v, vs, rfl, h v H e hv.1 _ fun σ1 h1 => h1 vs H e hv.2 Q k⟩
theorem ag_tup {B : St → Prop} {n : Nat} {gs : TGs} (h : Ags gs ps σ G B) (hn : ps.length = n := by rfl) : Ag (gTup K n gs) (pT K ps) σ G B := fun v H e ⟨a, vs, h1, h2, h3⟩ Q k =>
  ⟨a, vs, h1, same_sqT e h2, h3.len.trans hn, h vs H e h3 Q k⟩
/-- targets = e -/
theorem s_asg {g : TG} (h : Ev te σ G M M1 φ) (k : ∀ G1, Same G G1 → Ag g φ σ G1 fun σ' => O.nx σ' G1 M1) : Sm (tAsg te g) σ G M O := fun G1 H a A D d =>
  h G1 H a A _ fun v G2 H2 e2 A2 hv => k G2 (a.trans e2) v H2 A2.g hv _ fun σ' s => d.nx σ' G2 M1 H2 e2 A2 s
theorem q_asg {g : TG} (h : Ev te σ G M M1 φ) (k : ∀ G1, Same G G1 → Ag g φ σ G1 fun σ' => Sm tz σ' G1 M1 O) : Sm (tSeq (tAsg te g) tz) σ G M O := Sm.seq (s_asg h k)
end

/-! ### loops -/
section
variable {K : PySem.W.Frag} {σ : St} {G G0 : Hp} {M M1 M2 M3 N : Cells} {φ ψ : Pr} {ps qs : List Pr} {ta tb te tx tl : TE} {t u : TT} {x y z : V} {i : Nat} {O : Out} {tu tw tz : TS} {g : TG} {tr : TA}
theorem s_for (I : Nat → St → Hp → Cells → Prop) (h : Ev tl σ G M M1 (pL ps)) (h0 : ∀ G1, Same G G1 → I 0 σ G1 M1)
    (hs : ∀ j p σ' G' M', Same G G' → ps[j]? = some p → I j σ' G' M' → Ag g p σ' G' fun σ2 => Sm tu σ2 G' M' { nx := I (j + 1), rt := O.rt, bk := O.nx, ct := I (j + 1) })
    (hd : ∀ σ' G' M', Same G G' → I ps.length σ' G' M' → O.nx σ' G' M') : Sm (tFor (iList K tl) g tu) σ G M O := fun G1 H a A D d => h G1 H a A _ fun v G2 H2 e2 A2 ⟨l, vs, hv, hq, hal⟩ => by
  refine ⟨l, hv, ⟨vs, SqL.of (A2.g _ _ hq)⟩, for_list (K := K) (a := l) (xs := vs) (fun j σ' H' => ∃ G' M', Same G2 G' ∧ At G' M' H' ∧ I j σ' G' M')
    ⟨G2, M1, Same.refl _, A2, h0 G2 (a.trans e2)⟩ (fun j σ' H' _ ⟨G', M', e', A', _⟩ => SqL.of (e'.trans A'.g _ _ hq)) ?_ ?_⟩
  · rintro j x σ' H' hx ⟨G', M', e', A', hI⟩
    obtain ⟨p, hp, hpx⟩ := hal.getV hx
    refine hs j p σ' G' M' ((a.trans e2).trans e') hp hI x H' A'.g (p.m e' hpx) _ fun σ2 s => s G' H' (Same.refl _) A' _ ?_
    exact ⟨fun σ3 G3 M3 H3 e3 A3 r => ⟨G3, M3, e'.trans e3, A3, r⟩, fun v G3 M3 H3 e3 A3 r => d.rt v G3 M3 H3 ((e2.trans e').trans e3) A3 r, fun σ3 G3 M3 H3 e3 A3 r => d.nx σ3 G3 M3 H3 ((e2.trans e').trans e3) A3 r,
      fun σ3 G3 M3 H3 e3 A3 r => ⟨G3, M3, e'.trans e3, A3, r⟩⟩
  · rintro σ' H' ⟨G', M', e', A', hI⟩
    rw [hal.len] at hI
    exact d.nx σ' G' M' H' (e2.trans e') A' (hd σ' G' M' ((a.trans e2).trans e') hI)
end
end Sg
namespace Sg
open PySem PySem.Spec L2
/-! promises by the number of what they are of (printed by gensgc.py) -/
/-- the end of a body -/
def Fin (Me : Cells) (R : Pr) (v : V) (G' : Hp) (M' : Cells) : Prop := (∃ X : Cells, M'.Perm (X ++ Me)) ∧ R.h v G'
def FinO (Me : Cells) (ps : List Pr) (v : V) (G' : Hp) (M' : Cells) : Prop := ∃ p, v = .ref p ∧ ∃ X : Cells, M'.Perm (X ++ (p, .lst ps) :: Me)
def OutR (Me : Cells) (R : Pr) : Out := { nx := fun _ G' M' => Fin Me R .non G' M', rt := Fin Me R }
def OutO (Me : Cells) (ps : List Pr) : Out := { nx := fun _ G' M' => FinO Me ps .non G' M', rt := FinO Me ps }
theorem fin_ok {G : Hp} {Me : Cells} {R : Pr} {Q : VK} (k : ∀ v G' H', Same G G' → At G' Me H' → R.h v G' → Q v H') : Dok (OutR Me R) G { nx := fun _ H' => Q .non H', rt := Q } := by
  have fin : ∀ v G' M' H', Same G G' → At G' M' H' → Fin Me R v G' M' → Q v H' := fun v G' M' H' e A' ⟨⟨X, p⟩, r⟩ => k v G' H' e (A'.perm p).drop r
  exact ⟨fun _ G' M' H' e A' s => fin .non G' M' H' e A' s, fin, fun _ _ _ _ _ _ h => h.elim, fun _ _ _ _ _ _ h => h.elim⟩
theorem finO_ok {G : Hp} {Me : Cells} {ps : List Pr} {Q : VK} (k : ∀ p G' H', Same G G' → At G' ((p, .lst ps) :: Me) H' → Q (.ref p) H') : Dok (OutO Me ps) G { nx := fun _ H' => Q .non H', rt := Q } := by
  have fin : ∀ v G' M' H', Same G G' → At G' M' H' → FinO Me ps v G' M' → Q v H' := fun v G' M' H' e A' ⟨p, ev, X, q⟩ => by
    subst ev
    exact k p G' H' e (A'.perm q).drop
  exact ⟨fun _ G' M' H' e A' s => fin .non G' M' H' e A' s, fin, fun _ _ _ _ _ _ h => h.elim, fun _ _ _ _ _ _ h => h.elim⟩
theorem als1 {G : Hp} {p1 : Pr} {vs : List V} (h : Als G [p1] vs) : ∃ v1, vs = [v1] ∧ p1.h v1 G := by
  match vs, h with
  | [v1], ⟨h1, _⟩ => exact ⟨v1, rfl, h1⟩
theorem als2 {G : Hp} {p1 p2 : Pr} {vs : List V} (h : Als G [p1, p2] vs) : ∃ v1 v2, vs = [v1, v2] ∧ p1.h v1 G ∧ p2.h v2 G := by
  match vs, h with
  | [v1, v2], ⟨h1, h2, _⟩ => exact ⟨v1, v2, rfl, h1, h2⟩
theorem als3 {G : Hp} {p1 p2 p3 : Pr} {vs : List V} (h : Als G [p1, p2, p3] vs) : ∃ v1 v2 v3, vs = [v1, v2, v3] ∧ p1.h v1 G ∧ p2.h v2 G ∧ p3.h v3 G := by
  match vs, h with
  | [v1, v2, v3], ⟨h1, h2, h3, _⟩ => exact ⟨v1, v2, v3, rfl, h1, h2, h3⟩
theorem als4 {G : Hp} {p1 p2 p3 p4 : Pr} {vs : List V} (h : Als G [p1, p2, p3, p4] vs) : ∃ v1 v2 v3 v4, vs = [v1, v2, v3, v4] ∧ p1.h v1 G ∧ p2.h v2 G ∧ p3.h v3 G ∧ p4.h v4 G := by
  match vs, h with
  | [v1, v2, v3, v4], ⟨h1, h2, h3, h4, _⟩ => exact ⟨v1, v2, v3, v4, rfl, h1, h2, h3, h4⟩
theorem als5 {G : Hp} {p1 p2 p3 p4 p5 : Pr} {vs : List V} (h : Als G [p1, p2, p3, p4, p5] vs) : ∃ v1 v2 v3 v4 v5, vs = [v1, v2, v3, v4, v5] ∧ p1.h v1 G ∧ p2.h v2 G ∧ p3.h v3 G ∧ p4.h v4 G ∧ p5.h v5 G := by
  match vs, h with
  | [v1, v2, v3, v4, v5], ⟨h1, h2, h3, h4, h5, _⟩ => exact ⟨v1, v2, v3, v4, v5, rfl, h1, h2, h3, h4, h5⟩
theorem als6 {G : Hp} {p1 p2 p3 p4 p5 p6 : Pr} {vs : List V} (h : Als G [p1, p2, p3, p4, p5, p6] vs) : ∃ v1 v2 v3 v4 v5 v6, vs = [v1, v2, v3, v4, v5, v6] ∧ p1.h v1 G ∧ p2.h v2 G ∧ p3.h v3 G ∧ p4.h v4 G ∧ p5.h v5 G ∧ p6.h v6 G := by
  match vs, h with
  | [v1, v2, v3, v4, v5, v6], ⟨h1, h2, h3, h4, h5, h6, _⟩ => exact ⟨v1, v2, v3, v4, v5, v6, rfl, h1, h2, h3, h4, h5, h6⟩
theorem als7 {G : Hp} {p1 p2 p3 p4 p5 p6 p7 : Pr} {vs : List V} (h : Als G [p1, p2, p3, p4, p5, p6, p7] vs) : ∃ v1 v2 v3 v4 v5 v6 v7, vs = [v1, v2, v3, v4, v5, v6, v7] ∧ p1.h v1 G ∧ p2.h v2 G ∧ p3.h v3 G ∧ p4.h v4 G ∧ p5.h v5 G ∧ p6.h v6 G ∧ p7.h v7 G := by
  match vs, h with
  | [v1, v2, v3, v4, v5, v6, v7], ⟨h1, h2, h3, h4, h5, h6, h7, _⟩ => exact ⟨v1, v2, v3, v4, v5, v6, v7, rfl, h1, h2, h3, h4, h5, h6, h7⟩
theorem als8 {G : Hp} {p1 p2 p3 p4 p5 p6 p7 p8 : Pr} {vs : List V} (h : Als G [p1, p2, p3, p4, p5, p6, p7, p8] vs) : ∃ v1 v2 v3 v4 v5 v6 v7 v8, vs = [v1, v2, v3, v4, v5, v6, v7, v8] ∧ p1.h v1 G ∧ p2.h v2 G ∧ p3.h v3 G ∧ p4.h v4 G ∧ p5.h v5 G ∧ p6.h v6 G ∧ p7.h v7 G ∧ p8.h v8 G := by
  match vs, h with
  | [v1, v2, v3, v4, v5, v6, v7, v8], ⟨h1, h2, h3, h4, h5, h6, h7, h8, _⟩ => exact ⟨v1, v2, v3, v4, v5, v6, v7, v8, rfl, h1, h2, h3, h4, h5, h6, h7, h8⟩
def SpM1 {α : Type} (pre : α → Prop) (P : α → List Pr) (Ci Co : α → Cells) (R : α → Pr) : Sp := fun vs H Q _ => ∃ (a : α) (G : Hp) (M : Cells), pre a ∧ Als G (P a) vs ∧ At G (Ci a ++ M) H ∧ ∀ v G' H', Same G G' → At G' (Co a ++ M) H' → (R a).h v G' → Q v H'
theorem lenM1 {α : Type} {pre : α → Prop} {P : α → List Pr} {Ci Co : α → Cells} {R : α → Pr} {n : Nat} (h : ∀ a, (P a).length = n) : ∀ vs H Q E, (SpM1 pre P Ci Co R) vs H Q E → vs.length = n := fun _ _ _ _ ⟨a, _, _, _, ha, _⟩ => ha.len.trans (h a)
theorem bodyM1 {α : Type} {pre : α → Prop} {P : α → List Pr} {Ci Co : α → Cells} {R : α → Pr} {X : Cx} {bs : List Stmt} {ts : TS} {Nm : List Str} {vs : List V} {H : Hp} {Q : VK} {E : XK} (hd : PSs X.nox bs ts) (hs : ∀ a G M vs, pre a → Als G (P a) vs → Sm ts (start Nm vs) G (Ci a ++ M) (OutR (Co a ++ M) (R a))) (hh : (SpM1 pre P Ci Co R) vs H Q E) :
    ∃ t, PSs X bs t ∧ t { nx := fun _ H' => Q .non H', rt := Q } (start Nm vs) H := by
  obtain ⟨a, G, M, hp, ha, A, k⟩ := hh
  exact ⟨ts, hd.nox, hs a G M vs hp ha G H (Same.refl _) A _ (fin_ok k)⟩
theorem ec_M1 {α : Type} {pre : α → Prop} {P : α → List Pr} {Ci Co : α → Cells} {R : α → Pr} {tr : TA} {σ : St} {G : Hp} {M N : Cells} {E : XK} {a : α} (ha : EvA tr σ G M (Ci a ++ N) (P a)) (hp : pre a) : Ev (tCall (SpM1 pre P Ci Co R) [] E tr) σ G M (Co a ++ N) (R a) := fun G1 H q A Q k => ha G1 H q A _ fun vs G2 H2 e2 A2 hvs => by
  rw [List.append_nil]
  exact ⟨a, G2, N, hp, hvs, A2, fun v G3 H3 e3 A3 hv => k v G3 H3 (e2.trans e3) A3 hv⟩
theorem em_M1 {α : Type} {pre : α → Prop} {P : α → List Pr} {Ci Co : α → Cells} {R : α → Pr} {tr : TA} {ta : TE} {σ : St} {G : Hp} {M M1 N : Cells} {E : XK} {C : Addr} {m : Str} {φ : Pr} {ps : List Pr} {a : α} (ho : Ev ta σ G M M1 φ) (hi : ∀ v G', φ.h v G' → ∃ a dx fs, v = .ref a ∧ G' a = some (.ins C dx fs) ∧ fs.lookup m = none) (ha : EvA tr σ G M1 (Ci a ++ N) ps) (hP : φ :: ps = P a) (hp : pre a) :
    Ev (tMeth C m (SpM1 pre P Ci Co R) [] E ta tr) σ G M (Co a ++ N) (R a) := fun G1 H q A Q k => ho G1 H q A _ fun v G2 H2 e2 A2 hv => by
  obtain ⟨o, dx, fs, h1, h2, h3⟩ := hi v G2 hv
  refine ⟨o, dx, fs, h1, A2.g _ _ h2, h3, ha G2 H2 (q.trans e2) A2 _ fun vs G3 H3 e3 A3 hvs => ?_⟩
  rw [List.append_nil]
  exact ⟨a, G3, N, hp, by rw [← hP]; exact ⟨φ.m e3 hv, hvs⟩, A3, fun v G4 H4 e4 A4 hv => k v G4 H4 ((e2.trans e3).trans e4) A4 hv⟩
def SpO1 {α : Type} (pre : α → Prop) (P : α → List Pr) (Ci Co : α → Cells) (R : α → List Pr) : Sp := fun vs H Q _ => ∃ (a : α) (G : Hp) (M : Cells), pre a ∧ Als G (P a) vs ∧ At G (Ci a ++ M) H ∧ ∀ p G' H', Same G G' → At G' ((p, .lst (R a)) :: (Co a ++ M)) H' → Q (.ref p) H'
theorem lenO1 {α : Type} {pre : α → Prop} {P : α → List Pr} {Ci Co : α → Cells} {R : α → List Pr} {n : Nat} (h : ∀ a, (P a).length = n) : ∀ vs H Q E, (SpO1 pre P Ci Co R) vs H Q E → vs.length = n := fun _ _ _ _ ⟨a, _, _, _, ha, _⟩ => ha.len.trans (h a)
theorem bodyO1 {α : Type} {pre : α → Prop} {P : α → List Pr} {Ci Co : α → Cells} {R : α → List Pr} {X : Cx} {bs : List Stmt} {ts : TS} {Nm : List Str} {vs : List V} {H : Hp} {Q : VK} {E : XK} (hd : PSs X.nox bs ts) (hs : ∀ a G M vs, pre a → Als G (P a) vs → Sm ts (start Nm vs) G (Ci a ++ M) (OutO (Co a ++ M) (R a))) (hh : (SpO1 pre P Ci Co R) vs H Q E) :
    ∃ t, PSs X bs t ∧ t { nx := fun _ H' => Q .non H', rt := Q } (start Nm vs) H := by
  obtain ⟨a, G, M, hp, ha, A, k⟩ := hh
  exact ⟨ts, hd.nox, hs a G M vs hp ha G H (Same.refl _) A _ (finO_ok k)⟩
theorem ec_O1 {α : Type} {pre : α → Prop} {P : α → List Pr} {Ci Co : α → Cells} {R : α → List Pr} {tr : TA} {σ : St} {G : Hp} {M N : Cells} {E : XK} {a : α} (ha : EvA tr σ G M (Ci a ++ N) (P a)) (hp : pre a) : EvO (tCall (SpO1 pre P Ci Co R) [] E tr) σ G M (Co a ++ N) (R a) := fun G1 H q A Q k => ha G1 H q A _ fun vs G2 H2 e2 A2 hvs => by
  rw [List.append_nil]
  exact ⟨a, G2, N, hp, hvs, A2, fun p G3 H3 e3 A3 => k p G3 H3 (e2.trans e3) A3⟩
theorem em_O1 {α : Type} {pre : α → Prop} {P : α → List Pr} {Ci Co : α → Cells} {R : α → List Pr} {tr : TA} {ta : TE} {σ : St} {G : Hp} {M M1 N : Cells} {E : XK} {C : Addr} {m : Str} {φ : Pr} {ps : List Pr} {a : α} (ho : Ev ta σ G M M1 φ) (hi : ∀ v G', φ.h v G' → ∃ a dx fs, v = .ref a ∧ G' a = some (.ins C dx fs) ∧ fs.lookup m = none) (ha : EvA tr σ G M1 (Ci a ++ N) ps) (hP : φ :: ps = P a) (hp : pre a) :
    EvO (tMeth C m (SpO1 pre P Ci Co R) [] E ta tr) σ G M (Co a ++ N) (R a) := fun G1 H q A Q k => ho G1 H q A _ fun v G2 H2 e2 A2 hv => by
  obtain ⟨o, dx, fs, h1, h2, h3⟩ := hi v G2 hv
  refine ⟨o, dx, fs, h1, A2.g _ _ h2, h3, ha G2 H2 (q.trans e2) A2 _ fun vs G3 H3 e3 A3 hvs => ?_⟩
  rw [List.append_nil]
  exact ⟨a, G3, N, hp, by rw [← hP]; exact ⟨φ.m e3 hv, hvs⟩, A3, fun p G4 H4 e4 A4 => k p G4 H4 ((e2.trans e3).trans e4) A4⟩
def SpP1 {α : Type} (pre : α → Prop) (P : α → List Pr) (R : α → Pr) : Sp := fun vs H Q _ => ∃ (a : α) (G : Hp) (M : Cells), pre a ∧ Als G (P a) vs ∧ At G M H ∧ ∀ v G' H', Same G G' → At G' M H' → (R a).h v G' → Q v H'
theorem lenP1 {α : Type} {pre : α → Prop} {P : α → List Pr} {R : α → Pr} {n : Nat} (h : ∀ a, (P a).length = n) : ∀ vs H Q E, (SpP1 pre P R) vs H Q E → vs.length = n := fun _ _ _ _ ⟨a, _, _, _, ha, _⟩ => ha.len.trans (h a)
theorem bodyP1 {α : Type} {pre : α → Prop} {P : α → List Pr} {R : α → Pr} {X : Cx} {bs : List Stmt} {ts : TS} {Nm : List Str} {vs : List V} {H : Hp} {Q : VK} {E : XK} (hd : PSs X.nox bs ts) (hs : ∀ a G M vs, pre a → Als G (P a) vs → Sm ts (start Nm vs) G M (OutR M (R a))) (hh : (SpP1 pre P R) vs H Q E) :
    ∃ t, PSs X bs t ∧ t { nx := fun _ H' => Q .non H', rt := Q } (start Nm vs) H := by
  obtain ⟨a, G, M, hp, ha, A, k⟩ := hh
  exact ⟨ts, hd.nox, hs a G M vs hp ha G H (Same.refl _) A _ (fin_ok k)⟩
theorem ec_P1 {α : Type} {pre : α → Prop} {P : α → List Pr} {R : α → Pr} {tr : TA} {σ : St} {G : Hp} {M N : Cells} {E : XK} {a : α} (ha : EvA tr σ G M N (P a)) (hp : pre a) : Ev (tCall (SpP1 pre P R) [] E tr) σ G M N (R a) := fun G1 H q A Q k => ha G1 H q A _ fun vs G2 H2 e2 A2 hvs => by
  rw [List.append_nil]
  exact ⟨a, G2, N, hp, hvs, A2, fun v G3 H3 e3 A3 hv => k v G3 H3 (e2.trans e3) A3 hv⟩
theorem em_P1 {α : Type} {pre : α → Prop} {P : α → List Pr} {R : α → Pr} {tr : TA} {ta : TE} {σ : St} {G : Hp} {M M1 N : Cells} {E : XK} {C : Addr} {m : Str} {φ : Pr} {ps : List Pr} {a : α} (ho : Ev ta σ G M M1 φ) (hi : ∀ v G', φ.h v G' → ∃ a dx fs, v = .ref a ∧ G' a = some (.ins C dx fs) ∧ fs.lookup m = none) (ha : EvA tr σ G M1 N ps) (hP : φ :: ps = P a) (hp : pre a) :
    Ev (tMeth C m (SpP1 pre P R) [] E ta tr) σ G M N (R a) := fun G1 H q A Q k => ho G1 H q A _ fun v G2 H2 e2 A2 hv => by
  obtain ⟨o, dx, fs, h1, h2, h3⟩ := hi v G2 hv
  refine ⟨o, dx, fs, h1, A2.g _ _ h2, h3, ha G2 H2 (q.trans e2) A2 _ fun vs G3 H3 e3 A3 hvs => ?_⟩
  rw [List.append_nil]
  exact ⟨a, G3, N, hp, by rw [← hP]; exact ⟨φ.m e3 hv, hvs⟩, A3, fun v G4 H4 e4 A4 hv => k v G4 H4 ((e2.trans e3).trans e4) A4 hv⟩
def SpN1 {α : Type} (pre : α → Prop) (P : α → List Pr) (R : α → List Pr) : Sp := fun vs H Q _ => ∃ (a : α) (G : Hp) (M : Cells), pre a ∧ Als G (P a) vs ∧ At G M H ∧ ∀ p G' H', Same G G' → At G' ((p, .lst (R a)) :: M) H' → Q (.ref p) H'
theorem lenN1 {α : Type} {pre : α → Prop} {P : α → List Pr} {R : α → List Pr} {n : Nat} (h : ∀ a, (P a).length = n) : ∀ vs H Q E, (SpN1 pre P R) vs H Q E → vs.length = n := fun _ _ _ _ ⟨a, _, _, _, ha, _⟩ => ha.len.trans (h a)
theorem bodyN1 {α : Type} {pre : α → Prop} {P : α → List Pr} {R : α → List Pr} {X : Cx} {bs : List Stmt} {ts : TS} {Nm : List Str} {vs : List V} {H : Hp} {Q : VK} {E : XK} (hd : PSs X.nox bs ts) (hs : ∀ a G M vs, pre a → Als G (P a) vs → Sm ts (start Nm vs) G M (OutO M (R a))) (hh : (SpN1 pre P R) vs H Q E) :
    ∃ t, PSs X bs t ∧ t { nx := fun _ H' => Q .non H', rt := Q } (start Nm vs) H := by
  obtain ⟨a, G, M, hp, ha, A, k⟩ := hh
  exact ⟨ts, hd.nox, hs a G M vs hp ha G H (Same.refl _) A _ (finO_ok k)⟩
theorem ec_N1 {α : Type} {pre : α → Prop} {P : α → List Pr} {R : α → List Pr} {tr : TA} {σ : St} {G : Hp} {M N : Cells} {E : XK} {a : α} (ha : EvA tr σ G M N (P a)) (hp : pre a) : EvO (tCall (SpN1 pre P R) [] E tr) σ G M N (R a) := fun G1 H q A Q k => ha G1 H q A _ fun vs G2 H2 e2 A2 hvs => by
  rw [List.append_nil]
  exact ⟨a, G2, N, hp, hvs, A2, fun p G3 H3 e3 A3 => k p G3 H3 (e2.trans e3) A3⟩
theorem em_N1 {α : Type} {pre : α → Prop} {P : α → List Pr} {R : α → List Pr} {tr : TA} {ta : TE} {σ : St} {G : Hp} {M M1 N : Cells} {E : XK} {C : Addr} {m : Str} {φ : Pr} {ps : List Pr} {a : α} (ho : Ev ta σ G M M1 φ) (hi : ∀ v G', φ.h v G' → ∃ a dx fs, v = .ref a ∧ G' a = some (.ins C dx fs) ∧ fs.lookup m = none) (ha : EvA tr σ G M1 N ps) (hP : φ :: ps = P a) (hp : pre a) :
    EvO (tMeth C m (SpN1 pre P R) [] E ta tr) σ G M N (R a) := fun G1 H q A Q k => ho G1 H q A _ fun v G2 H2 e2 A2 hv => by
  obtain ⟨o, dx, fs, h1, h2, h3⟩ := hi v G2 hv
  refine ⟨o, dx, fs, h1, A2.g _ _ h2, h3, ha G2 H2 (q.trans e2) A2 _ fun vs G3 H3 e3 A3 hvs => ?_⟩
  rw [List.append_nil]
  exact ⟨a, G3, N, hp, by rw [← hP]; exact ⟨φ.m e3 hv, hvs⟩, A3, fun p G4 H4 e4 A4 => k p G4 H4 ((e2.trans e3).trans e4) A4⟩
def SpM2 {α β : Type} (pre : α → β → Prop) (P : α → β → List Pr) (Ci Co : α → β → Cells) (R : α → β → Pr) : Sp := fun vs H Q _ => ∃ (a : α) (b : β) (G : Hp) (M : Cells), pre a b ∧ Als G (P a b) vs ∧ At G (Ci a b ++ M) H ∧ ∀ v G' H', Same G G' → At G' (Co a b ++ M) H' → (R a b).h v G' → Q v H'
theorem lenM2 {α β : Type} {pre : α → β → Prop} {P : α → β → List Pr} {Ci Co : α → β → Cells} {R : α → β → Pr} {n : Nat} (h : ∀ a b, (P a b).length = n) : ∀ vs H Q E, (SpM2 pre P Ci Co R) vs H Q E → vs.length = n := fun _ _ _ _ ⟨a, b, _, _, _, ha, _⟩ => ha.len.trans (h a b)
theorem bodyM2 {α β : Type} {pre : α → β → Prop} {P : α → β → List Pr} {Ci Co : α → β → Cells} {R : α → β → Pr} {X : Cx} {bs : List Stmt} {ts : TS} {Nm : List Str} {vs : List V} {H : Hp} {Q : VK} {E : XK} (hd : PSs X.nox bs ts) (hs : ∀ a b G M vs, pre a b → Als G (P a b) vs → Sm ts (start Nm vs) G (Ci a b ++ M) (OutR (Co a b ++ M) (R a b))) (hh : (SpM2 pre P Ci Co R) vs H Q E) :
    ∃ t, PSs X bs t ∧ t { nx := fun _ H' => Q .non H', rt := Q } (start Nm vs) H := by
  obtain ⟨a, b, G, M, hp, ha, A, k⟩ := hh
  exact ⟨ts, hd.nox, hs a b G M vs hp ha G H (Same.refl _) A _ (fin_ok k)⟩
theorem ec_M2 {α β : Type} {pre : α → β → Prop} {P : α → β → List Pr} {Ci Co : α → β → Cells} {R : α → β → Pr} {tr : TA} {σ : St} {G : Hp} {M N : Cells} {E : XK} {a : α} {b : β} (ha : EvA tr σ G M (Ci a b ++ N) (P a b)) (hp : pre a b) : Ev (tCall (SpM2 pre P Ci Co R) [] E tr) σ G M (Co a b ++ N) (R a b) := fun G1 H q A Q k => ha G1 H q A _ fun vs G2 H2 e2 A2 hvs => by
  rw [List.append_nil]
  exact ⟨a, b, G2, N, hp, hvs, A2, fun v G3 H3 e3 A3 hv => k v G3 H3 (e2.trans e3) A3 hv⟩
theorem em_M2 {α β : Type} {pre : α → β → Prop} {P : α → β → List Pr} {Ci Co : α → β → Cells} {R : α → β → Pr} {tr : TA} {ta : TE} {σ : St} {G : Hp} {M M1 N : Cells} {E : XK} {C : Addr} {m : Str} {φ : Pr} {ps : List Pr} {a : α} {b : β} (ho : Ev ta σ G M M1 φ) (hi : ∀ v G', φ.h v G' → ∃ a dx fs, v = .ref a ∧ G' a = some (.ins C dx fs) ∧ fs.lookup m = none) (ha : EvA tr σ G M1 (Ci a b ++ N) ps) (hP : φ :: ps = P a b) (hp : pre a b) :
    Ev (tMeth C m (SpM2 pre P Ci Co R) [] E ta tr) σ G M (Co a b ++ N) (R a b) := fun G1 H q A Q k => ho G1 H q A _ fun v G2 H2 e2 A2 hv => by
  obtain ⟨o, dx, fs, h1, h2, h3⟩ := hi v G2 hv
  refine ⟨o, dx, fs, h1, A2.g _ _ h2, h3, ha G2 H2 (q.trans e2) A2 _ fun vs G3 H3 e3 A3 hvs => ?_⟩
  rw [List.append_nil]
  exact ⟨a, b, G3, N, hp, by rw [← hP]; exact ⟨φ.m e3 hv, hvs⟩, A3, fun v G4 H4 e4 A4 hv => k v G4 H4 ((e2.trans e3).trans e4) A4 hv⟩
def SpO2 {α β : Type} (pre : α → β → Prop) (P : α → β → List Pr) (Ci Co : α → β → Cells) (R : α → β → List Pr) : Sp := fun vs H Q _ => ∃ (a : α) (b : β) (G : Hp) (M : Cells), pre a b ∧ Als G (P a b) vs ∧ At G (Ci a b ++ M) H ∧ ∀ p G' H', Same G G' → At G' ((p, .lst (R a b)) :: (Co a b ++ M)) H' → Q (.ref p) H'
theorem lenO2 {α β : Type} {pre : α → β → Prop} {P : α → β → List Pr} {Ci Co : α → β → Cells} {R : α → β → List Pr} {n : Nat} (h : ∀ a b, (P a b).length = n) : ∀ vs H Q E, (SpO2 pre P Ci Co R) vs H Q E → vs.length = n := fun _ _ _ _ ⟨a, b, _, _, _, ha, _⟩ => ha.len.trans (h a b)
theorem bodyO2 {α β : Type} {pre : α → β → Prop} {P : α → β → List Pr} {Ci Co : α → β → Cells} {R : α → β → List Pr} {X : Cx} {bs : List Stmt} {ts : TS} {Nm : List Str} {vs : List V} {H : Hp} {Q : VK} {E : XK} (hd : PSs X.nox bs ts) (hs : ∀ a b G M vs, pre a b → Als G (P a b) vs → Sm ts (start Nm vs) G (Ci a b ++ M) (OutO (Co a b ++ M) (R a b))) (hh : (SpO2 pre P Ci Co R) vs H Q E) :
    ∃ t, PSs X bs t ∧ t { nx := fun _ H' => Q .non H', rt := Q } (start Nm vs) H := by
  obtain ⟨a, b, G, M, hp, ha, A, k⟩ := hh
  exact ⟨ts, hd.nox, hs a b G M vs hp ha G H (Same.refl _) A _ (finO_ok k)⟩
theorem ec_O2 {α β : Type} {pre : α → β → Prop} {P : α → β → List Pr} {Ci Co : α → β → Cells} {R : α → β → List Pr} {tr : TA} {σ : St} {G : Hp} {M N : Cells} {E : XK} {a : α} {b : β} (ha : EvA tr σ G M (Ci a b ++ N) (P a b)) (hp : pre a b) : EvO (tCall (SpO2 pre P Ci Co R) [] E tr) σ G M (Co a b ++ N) (R a b) := fun G1 H q A Q k => ha G1 H q A _ fun vs G2 H2 e2 A2 hvs => by
  rw [List.append_nil]
  exact ⟨a, b, G2, N, hp, hvs, A2, fun p G3 H3 e3 A3 => k p G3 H3 (e2.trans e3) A3⟩
theorem em_O2 {α β : Type} {pre : α → β → Prop} {P : α → β → List Pr} {Ci Co : α → β → Cells} {R : α → β → List Pr} {tr : TA} {ta : TE} {σ : St} {G : Hp} {M M1 N : Cells} {E : XK} {C : Addr} {m : Str} {φ : Pr} {ps : List Pr} {a : α} {b : β} (ho : Ev ta σ G M M1 φ) (hi : ∀ v G', φ.h v G' → ∃ a dx fs, v = .ref a ∧ G' a = some (.ins C dx fs) ∧ fs.lookup m = none) (ha : EvA tr σ G M1 (Ci a b ++ N) ps) (hP : φ :: ps = P a b) (hp : pre a b) :
    EvO (tMeth C m (SpO2 pre P Ci Co R) [] E ta tr) σ G M (Co a b ++ N) (R a b) := fun G1 H q A Q k => ho G1 H q A _ fun v G2 H2 e2 A2 hv => by
  obtain ⟨o, dx, fs, h1, h2, h3⟩ := hi v G2 hv
  refine ⟨o, dx, fs, h1, A2.g _ _ h2, h3, ha G2 H2 (q.trans e2) A2 _ fun vs G3 H3 e3 A3 hvs => ?_⟩
  rw [List.append_nil]
  exact ⟨a, b, G3, N, hp, by rw [← hP]; exact ⟨φ.m e3 hv, hvs⟩, A3, fun p G4 H4 e4 A4 => k p G4 H4 ((e2.trans e3).trans e4) A4⟩
def SpP2 {α β : Type} (pre : α → β → Prop) (P : α → β → List Pr) (R : α → β → Pr) : Sp := fun vs H Q _ => ∃ (a : α) (b : β) (G : Hp) (M : Cells), pre a b ∧ Als G (P a b) vs ∧ At G M H ∧ ∀ v G' H', Same G G' → At G' M H' → (R a b).h v G' → Q v H'
theorem lenP2 {α β : Type} {pre : α → β → Prop} {P : α → β → List Pr} {R : α → β → Pr} {n : Nat} (h : ∀ a b, (P a b).length = n) : ∀ vs H Q E, (SpP2 pre P R) vs H Q E → vs.length = n := fun _ _ _ _ ⟨a, b, _, _, _, ha, _⟩ => ha.len.trans (h a b)
theorem bodyP2 {α β : Type} {pre : α → β → Prop} {P : α → β → List Pr} {R : α → β → Pr} {X : Cx} {bs : List Stmt} {ts : TS} {Nm : List Str} {vs : List V} {H : Hp} {Q : VK} {E : XK} (hd : PSs X.nox bs ts) (hs : ∀ a b G M vs, pre a b → Als G (P a b) vs → Sm ts (start Nm vs) G M (OutR M (R a b))) (hh : (SpP2 pre P R) vs H Q E) :
    ∃ t, PSs X bs t ∧ t { nx := fun _ H' => Q .non H', rt := Q } (start Nm vs) H := by
  obtain ⟨a, b, G, M, hp, ha, A, k⟩ := hh
  exact ⟨ts, hd.nox, hs a b G M vs hp ha G H (Same.refl _) A _ (fin_ok k)⟩
theorem ec_P2 {α β : Type} {pre : α → β → Prop} {P : α → β → List Pr} {R : α → β → Pr} {tr : TA} {σ : St} {G : Hp} {M N : Cells} {E : XK} {a : α} {b : β} (ha : EvA tr σ G M N (P a b)) (hp : pre a b) : Ev (tCall (SpP2 pre P R) [] E tr) σ G M N (R a b) := fun G1 H q A Q k => ha G1 H q A _ fun vs G2 H2 e2 A2 hvs => by
  rw [List.append_nil]
  exact ⟨a, b, G2, N, hp, hvs, A2, fun v G3 H3 e3 A3 hv => k v G3 H3 (e2.trans e3) A3 hv⟩
theorem em_P2 {α β : Type} {pre : α → β → Prop} {P : α → β → List Pr} {R : α → β → Pr} {tr : TA} {ta : TE} {σ : St} {G : Hp} {M M1 N : Cells} {E : XK} {C : Addr} {m : Str} {φ : Pr} {ps : List Pr} {a : α} {b : β} (ho : Ev ta σ G M M1 φ) (hi : ∀ v G', φ.h v G' → ∃ a dx fs, v = .ref a ∧ G' a = some (.ins C dx fs) ∧ fs.lookup m = none) (ha : EvA tr σ G M1 N ps) (hP : φ :: ps = P a b) (hp : pre a b) :
    Ev (tMeth C m (SpP2 pre P R) [] E ta tr) σ G M N (R a b) := fun G1 H q A Q k => ho G1 H q A _ fun v G2 H2 e2 A2 hv => by
  obtain ⟨o, dx, fs, h1, h2, h3⟩ := hi v G2 hv
  refine ⟨o, dx, fs, h1, A2.g _ _ h2, h3, ha G2 H2 (q.trans e2) A2 _ fun vs G3 H3 e3 A3 hvs => ?_⟩
  rw [List.append_nil]
  exact ⟨a, b, G3, N, hp, by rw [← hP]; exact ⟨φ.m e3 hv, hvs⟩, A3, fun v G4 H4 e4 A4 hv => k v G4 H4 ((e2.trans e3).trans e4) A4 hv⟩
def SpN2 {α β : Type} (pre : α → β → Prop) (P : α → β → List Pr) (R : α → β → List Pr) : Sp := fun vs H Q _ => ∃ (a : α) (b : β) (G : Hp) (M : Cells), pre a b ∧ Als G (P a b) vs ∧ At G M H ∧ ∀ p G' H', Same G G' → At G' ((p, .lst (R a b)) :: M) H' → Q (.ref p) H'
theorem lenN2 {α β : Type} {pre : α → β → Prop} {P : α → β → List Pr} {R : α → β → List Pr} {n : Nat} (h : ∀ a b, (P a b).length = n) : ∀ vs H Q E, (SpN2 pre P R) vs H Q E → vs.length = n := fun _ _ _ _ ⟨a, b, _, _, _, ha, _⟩ => ha.len.trans (h a b)
theorem bodyN2 {α β : Type} {pre : α → β → Prop} {P : α → β → List Pr} {R : α → β → List Pr} {X : Cx} {bs : List Stmt} {ts : TS} {Nm : List Str} {vs : List V} {H : Hp} {Q : VK} {E : XK} (hd : PSs X.nox bs ts) (hs : ∀ a b G M vs, pre a b → Als G (P a b) vs → Sm ts (start Nm vs) G M (OutO M (R a b))) (hh : (SpN2 pre P R) vs H Q E) :
    ∃ t, PSs X bs t ∧ t { nx := fun _ H' => Q .non H', rt := Q } (start Nm vs) H := by
  obtain ⟨a, b, G, M, hp, ha, A, k⟩ := hh
  exact ⟨ts, hd.nox, hs a b G M vs hp ha G H (Same.refl _) A _ (finO_ok k)⟩
theorem ec_N2 {α β : Type} {pre : α → β → Prop} {P : α → β → List Pr} {R : α → β → List Pr} {tr : TA} {σ : St} {G : Hp} {M N : Cells} {E : XK} {a : α} {b : β} (ha : EvA tr σ G M N (P a b)) (hp : pre a b) : EvO (tCall (SpN2 pre P R) [] E tr) σ G M N (R a b) := fun G1 H q A Q k => ha G1 H q A _ fun vs G2 H2 e2 A2 hvs => by
  rw [List.append_nil]
  exact ⟨a, b, G2, N, hp, hvs, A2, fun p G3 H3 e3 A3 => k p G3 H3 (e2.trans e3) A3⟩
theorem em_N2 {α β : Type} {pre : α → β → Prop} {P : α → β → List Pr} {R : α → β → List Pr} {tr : TA} {ta : TE} {σ : St} {G : Hp} {M M1 N : Cells} {E : XK} {C : Addr} {m : Str} {φ : Pr} {ps : List Pr} {a : α} {b : β} (ho : Ev ta σ G M M1 φ) (hi : ∀ v G', φ.h v G' → ∃ a dx fs, v = .ref a ∧ G' a = some (.ins C dx fs) ∧ fs.lookup m = none) (ha : EvA tr σ G M1 N ps) (hP : φ :: ps = P a b) (hp : pre a b) :
    EvO (tMeth C m (SpN2 pre P R) [] E ta tr) σ G M N (R a b) := fun G1 H q A Q k => ho G1 H q A _ fun v G2 H2 e2 A2 hv => by
  obtain ⟨o, dx, fs, h1, h2, h3⟩ := hi v G2 hv
  refine ⟨o, dx, fs, h1, A2.g _ _ h2, h3, ha G2 H2 (q.trans e2) A2 _ fun vs G3 H3 e3 A3 hvs => ?_⟩
  rw [List.append_nil]
  exact ⟨a, b, G3, N, hp, by rw [← hP]; exact ⟨φ.m e3 hv, hvs⟩, A3, fun p G4 H4 e4 A4 => k p G4 H4 ((e2.trans e3).trans e4) A4⟩
def SpM3 {α β γ : Type} (pre : α → β → γ → Prop) (P : α → β → γ → List Pr) (Ci Co : α → β → γ → Cells) (R : α → β → γ → Pr) : Sp := fun vs H Q _ => ∃ (a : α) (b : β) (c : γ) (G : Hp) (M : Cells), pre a b c ∧ Als G (P a b c) vs ∧ At G (Ci a b c ++ M) H ∧ ∀ v G' H', Same G G' → At G' (Co a b c ++ M) H' → (R a b c).h v G' → Q v H'
theorem lenM3 {α β γ : Type} {pre : α → β → γ → Prop} {P : α → β → γ → List Pr} {Ci Co : α → β → γ → Cells} {R : α → β → γ → Pr} {n : Nat} (h : ∀ a b c, (P a b c).length = n) : ∀ vs H Q E, (SpM3 pre P Ci Co R) vs H Q E → vs.length = n := fun _ _ _ _ ⟨a, b, c, _, _, _, ha, _⟩ => ha.len.trans (h a b c)
theorem bodyM3 {α β γ : Type} {pre : α → β → γ → Prop} {P : α → β → γ → List Pr} {Ci Co : α → β → γ → Cells} {R : α → β → γ → Pr} {X : Cx} {bs : List Stmt} {ts : TS} {Nm : List Str} {vs : List V} {H : Hp} {Q : VK} {E : XK} (hd : PSs X.nox bs ts) (hs : ∀ a b c G M vs, pre a b c → Als G (P a b c) vs → Sm ts (start Nm vs) G (Ci a b c ++ M) (OutR (Co a b c ++ M) (R a b c))) (hh : (SpM3 pre P Ci Co R) vs H Q E) :
    ∃ t, PSs X bs t ∧ t { nx := fun _ H' => Q .non H', rt := Q } (start Nm vs) H := by
  obtain ⟨a, b, c, G, M, hp, ha, A, k⟩ := hh
  exact ⟨ts, hd.nox, hs a b c G M vs hp ha G H (Same.refl _) A _ (fin_ok k)⟩
theorem ec_M3 {α β γ : Type} {pre : α → β → γ → Prop} {P : α → β → γ → List Pr} {Ci Co : α → β → γ → Cells} {R : α → β → γ → Pr} {tr : TA} {σ : St} {G : Hp} {M N : Cells} {E : XK} {a : α} {b : β} {c : γ} (ha : EvA tr σ G M (Ci a b c ++ N) (P a b c)) (hp : pre a b c) : Ev (tCall (SpM3 pre P Ci Co R) [] E tr) σ G M (Co a b c ++ N) (R a b c) := fun G1 H q A Q k => ha G1 H q A _ fun vs G2 H2 e2 A2 hvs => by
  rw [List.append_nil]
  exact ⟨a, b, c, G2, N, hp, hvs, A2, fun v G3 H3 e3 A3 hv => k v G3 H3 (e2.trans e3) A3 hv⟩
theorem em_M3 {α β γ : Type} {pre : α → β → γ → Prop} {P : α → β → γ → List Pr} {Ci Co : α → β → γ → Cells} {R : α → β → γ → Pr} {tr : TA} {ta : TE} {σ : St} {G : Hp} {M M1 N : Cells} {E : XK} {C : Addr} {m : Str} {φ : Pr} {ps : List Pr} {a : α} {b : β} {c : γ} (ho : Ev ta σ G M M1 φ) (hi : ∀ v G', φ.h v G' → ∃ a dx fs, v = .ref a ∧ G' a = some (.ins C dx fs) ∧ fs.lookup m = none) (ha : EvA tr σ G M1 (Ci a b c ++ N) ps) (hP : φ :: ps = P a b c) (hp : pre a b c) :
    Ev (tMeth C m (SpM3 pre P Ci Co R) [] E ta tr) σ G M (Co a b c ++ N) (R a b c) := fun G1 H q A Q k => ho G1 H q A _ fun v G2 H2 e2 A2 hv => by
  obtain ⟨o, dx, fs, h1, h2, h3⟩ := hi v G2 hv
  refine ⟨o, dx, fs, h1, A2.g _ _ h2, h3, ha G2 H2 (q.trans e2) A2 _ fun vs G3 H3 e3 A3 hvs => ?_⟩
  rw [List.append_nil]
  exact ⟨a, b, c, G3, N, hp, by rw [← hP]; exact ⟨φ.m e3 hv, hvs⟩, A3, fun v G4 H4 e4 A4 hv => k v G4 H4 ((e2.trans e3).trans e4) A4 hv⟩
def SpO3 {α β γ : Type} (pre : α → β → γ → Prop) (P : α → β → γ → List Pr) (Ci Co : α → β → γ → Cells) (R : α → β → γ → List Pr) : Sp := fun vs H Q _ => ∃ (a : α) (b : β) (c : γ) (G : Hp) (M : Cells), pre a b c ∧ Als G (P a b c) vs ∧ At G (Ci a b c ++ M) H ∧ ∀ p G' H', Same G G' → At G' ((p, .lst (R a b c)) :: (Co a b c ++ M)) H' → Q (.ref p) H'
theorem lenO3 {α β γ : Type} {pre : α → β → γ → Prop} {P : α → β → γ → List Pr} {Ci Co : α → β → γ → Cells} {R : α → β → γ → List Pr} {n : Nat} (h : ∀ a b c, (P a b c).length = n) : ∀ vs H Q E, (SpO3 pre P Ci Co R) vs H Q E → vs.length = n := fun _ _ _ _ ⟨a, b, c, _, _, _, ha, _⟩ => ha.len.trans (h a b c)
theorem bodyO3 {α β γ : Type} {pre : α → β → γ → Prop} {P : α → β → γ → List Pr} {Ci Co : α → β → γ → Cells} {R : α → β → γ → List Pr} {X : Cx} {bs : List Stmt} {ts : TS} {Nm : List Str} {vs : List V} {H : Hp} {Q : VK} {E : XK} (hd : PSs X.nox bs ts) (hs : ∀ a b c G M vs, pre a b c → Als G (P a b c) vs → Sm ts (start Nm vs) G (Ci a b c ++ M) (OutO (Co a b c ++ M) (R a b c))) (hh : (SpO3 pre P Ci Co R) vs H Q E) :
    ∃ t, PSs X bs t ∧ t { nx := fun _ H' => Q .non H', rt := Q } (start Nm vs) H := by
  obtain ⟨a, b, c, G, M, hp, ha, A, k⟩ := hh
  exact ⟨ts, hd.nox, hs a b c G M vs hp ha G H (Same.refl _) A _ (finO_ok k)⟩
theorem ec_O3 {α β γ : Type} {pre : α → β → γ → Prop} {P : α → β → γ → List Pr} {Ci Co : α → β → γ → Cells} {R : α → β → γ → List Pr} {tr : TA} {σ : St} {G : Hp} {M N : Cells} {E : XK} {a : α} {b : β} {c : γ} (ha : EvA tr σ G M (Ci a b c ++ N) (P a b c)) (hp : pre a b c) : EvO (tCall (SpO3 pre P Ci Co R) [] E tr) σ G M (Co a b c ++ N) (R a b c) := fun G1 H q A Q k => ha G1 H q A _ fun vs G2 H2 e2 A2 hvs => by
  rw [List.append_nil]
  exact ⟨a, b, c, G2, N, hp, hvs, A2, fun p G3 H3 e3 A3 => k p G3 H3 (e2.trans e3) A3⟩
theorem em_O3 {α β γ : Type} {pre : α → β → γ → Prop} {P : α → β → γ → List Pr} {Ci Co : α → β → γ → Cells} {R : α → β → γ → List Pr} {tr : TA} {ta : TE} {σ : St} {G : Hp} {M M1 N : Cells} {E : XK} {C : Addr} {m : Str} {φ : Pr} {ps : List Pr} {a : α} {b : β} {c : γ} (ho : Ev ta σ G M M1 φ) (hi : ∀ v G', φ.h v G' → ∃ a dx fs, v = .ref a ∧ G' a = some (.ins C dx fs) ∧ fs.lookup m = none) (ha : EvA tr σ G M1 (Ci a b c ++ N) ps) (hP : φ :: ps = P a b c) (hp : pre a b c) :
    EvO (tMeth C m (SpO3 pre P Ci Co R) [] E ta tr) σ G M (Co a b c ++ N) (R a b c) := fun G1 H q A Q k => ho G1 H q A _ fun v G2 H2 e2 A2 hv => by
  obtain ⟨o, dx, fs, h1, h2, h3⟩ := hi v G2 hv
  refine ⟨o, dx, fs, h1, A2.g _ _ h2, h3, ha G2 H2 (q.trans e2) A2 _ fun vs G3 H3 e3 A3 hvs => ?_⟩
  rw [List.append_nil]
  exact ⟨a, b, c, G3, N, hp, by rw [← hP]; exact ⟨φ.m e3 hv, hvs⟩, A3, fun p G4 H4 e4 A4 => k p G4 H4 ((e2.trans e3).trans e4) A4⟩
def SpP3 {α β γ : Type} (pre : α → β → γ → Prop) (P : α → β → γ → List Pr) (R : α → β → γ → Pr) : Sp := fun vs H Q _ => ∃ (a : α) (b : β) (c : γ) (G : Hp) (M : Cells), pre a b c ∧ Als G (P a b c) vs ∧ At G M H ∧ ∀ v G' H', Same G G' → At G' M H' → (R a b c).h v G' → Q v H'
theorem lenP3 {α β γ : Type} {pre : α → β → γ → Prop} {P : α → β → γ → List Pr} {R : α → β → γ → Pr} {n : Nat} (h : ∀ a b c, (P a b c).length = n) : ∀ vs H Q E, (SpP3 pre P R) vs H Q E → vs.length = n := fun _ _ _ _ ⟨a, b, c, _, _, _, ha, _⟩ => ha.len.trans (h a b c)
theorem bodyP3 {α β γ : Type} {pre : α → β → γ → Prop} {P : α → β → γ → List Pr} {R : α → β → γ → Pr} {X : Cx} {bs : List Stmt} {ts : TS} {Nm : List Str} {vs : List V} {H : Hp} {Q : VK} {E : XK} (hd : PSs X.nox bs ts) (hs : ∀ a b c G M vs, pre a b c → Als G (P a b c) vs → Sm ts (start Nm vs) G M (OutR M (R a b c))) (hh : (SpP3 pre P R) vs H Q E) :
    ∃ t, PSs X bs t ∧ t { nx := fun _ H' => Q .non H', rt := Q } (start Nm vs) H := by
  obtain ⟨a, b, c, G, M, hp, ha, A, k⟩ := hh
  exact ⟨ts, hd.nox, hs a b c G M vs hp ha G H (Same.refl _) A _ (fin_ok k)⟩
theorem ec_P3 {α β γ : Type} {pre : α → β → γ → Prop} {P : α → β → γ → List Pr} {R : α → β → γ → Pr} {tr : TA} {σ : St} {G : Hp} {M N : Cells} {E : XK} {a : α} {b : β} {c : γ} (ha : EvA tr σ G M N (P a b c)) (hp : pre a b c) : Ev (tCall (SpP3 pre P R) [] E tr) σ G M N (R a b c) := fun G1 H q A Q k => ha G1 H q A _ fun vs G2 H2 e2 A2 hvs => by
  rw [List.append_nil]
  exact ⟨a, b, c, G2, N, hp, hvs, A2, fun v G3 H3 e3 A3 hv => k v G3 H3 (e2.trans e3) A3 hv⟩
theorem em_P3 {α β γ : Type} {pre : α → β → γ → Prop} {P : α → β → γ → List Pr} {R : α → β → γ → Pr} {tr : TA} {ta : TE} {σ : St} {G : Hp} {M M1 N : Cells} {E : XK} {C : Addr} {m : Str} {φ : Pr} {ps : List Pr} {a : α} {b : β} {c : γ} (ho : Ev ta σ G M M1 φ) (hi : ∀ v G', φ.h v G' → ∃ a dx fs, v = .ref a ∧ G' a = some (.ins C dx fs) ∧ fs.lookup m = none) (ha : EvA tr σ G M1 N ps) (hP : φ :: ps = P a b c) (hp : pre a b c) :
    Ev (tMeth C m (SpP3 pre P R) [] E ta tr) σ G M N (R a b c) := fun G1 H q A Q k => ho G1 H q A _ fun v G2 H2 e2 A2 hv => by
  obtain ⟨o, dx, fs, h1, h2, h3⟩ := hi v G2 hv
  refine ⟨o, dx, fs, h1, A2.g _ _ h2, h3, ha G2 H2 (q.trans e2) A2 _ fun vs G3 H3 e3 A3 hvs => ?_⟩
  rw [List.append_nil]
  exact ⟨a, b, c, G3, N, hp, by rw [← hP]; exact ⟨φ.m e3 hv, hvs⟩, A3, fun v G4 H4 e4 A4 hv => k v G4 H4 ((e2.trans e3).trans e4) A4 hv⟩
def SpN3 {α β γ : Type} (pre : α → β → γ → Prop) (P : α → β → γ → List Pr) (R : α → β → γ → List Pr) : Sp := fun vs H Q _ => ∃ (a : α) (b : β) (c : γ) (G : Hp) (M : Cells), pre a b c ∧ Als G (P a b c) vs ∧ At G M H ∧ ∀ p G' H', Same G G' → At G' ((p, .lst (R a b c)) :: M) H' → Q (.ref p) H'
theorem lenN3 {α β γ : Type} {pre : α → β → γ → Prop} {P : α → β → γ → List Pr} {R : α → β → γ → List Pr} {n : Nat} (h : ∀ a b c, (P a b c).length = n) : ∀ vs H Q E, (SpN3 pre P R) vs H Q E → vs.length = n := fun _ _ _ _ ⟨a, b, c, _, _, _, ha, _⟩ => ha.len.trans (h a b c)
theorem bodyN3 {α β γ : Type} {pre : α → β → γ → Prop} {P : α → β → γ → List Pr} {R : α → β → γ → List Pr} {X : Cx} {bs : List Stmt} {ts : TS} {Nm : List Str} {vs : List V} {H : Hp} {Q : VK} {E : XK} (hd : PSs X.nox bs ts) (hs : ∀ a b c G M vs, pre a b c → Als G (P a b c) vs → Sm ts (start Nm vs) G M (OutO M (R a b c))) (hh : (SpN3 pre P R) vs H Q E) :
    ∃ t, PSs X bs t ∧ t { nx := fun _ H' => Q .non H', rt := Q } (start Nm vs) H := by
  obtain ⟨a, b, c, G, M, hp, ha, A, k⟩ := hh
  exact ⟨ts, hd.nox, hs a b c G M vs hp ha G H (Same.refl _) A _ (finO_ok k)⟩
theorem ec_N3 {α β γ : Type} {pre : α → β → γ → Prop} {P : α → β → γ → List Pr} {R : α → β → γ → List Pr} {tr : TA} {σ : St} {G : Hp} {M N : Cells} {E : XK} {a : α} {b : β} {c : γ} (ha : EvA tr σ G M N (P a b c)) (hp : pre a b c) : EvO (tCall (SpN3 pre P R) [] E tr) σ G M N (R a b c) := fun G1 H q A Q k => ha G1 H q A _ fun vs G2 H2 e2 A2 hvs => by
  rw [List.append_nil]
  exact ⟨a, b, c, G2, N, hp, hvs, A2, fun p G3 H3 e3 A3 => k p G3 H3 (e2.trans e3) A3⟩
theorem em_N3 {α β γ : Type} {pre : α → β → γ → Prop} {P : α → β → γ → List Pr} {R : α → β → γ → List Pr} {tr : TA} {ta : TE} {σ : St} {G : Hp} {M M1 N : Cells} {E : XK} {C : Addr} {m : Str} {φ : Pr} {ps : List Pr} {a : α} {b : β} {c : γ} (ho : Ev ta σ G M M1 φ) (hi : ∀ v G', φ.h v G' → ∃ a dx fs, v = .ref a ∧ G' a = some (.ins C dx fs) ∧ fs.lookup m = none) (ha : EvA tr σ G M1 N ps) (hP : φ :: ps = P a b c) (hp : pre a b c) :
    EvO (tMeth C m (SpN3 pre P R) [] E ta tr) σ G M N (R a b c) := fun G1 H q A Q k => ho G1 H q A _ fun v G2 H2 e2 A2 hv => by
  obtain ⟨o, dx, fs, h1, h2, h3⟩ := hi v G2 hv
  refine ⟨o, dx, fs, h1, A2.g _ _ h2, h3, ha G2 H2 (q.trans e2) A2 _ fun vs G3 H3 e3 A3 hvs => ?_⟩
  rw [List.append_nil]
  exact ⟨a, b, c, G3, N, hp, by rw [← hP]; exact ⟨φ.m e3 hv, hvs⟩, A3, fun p G4 H4 e4 A4 => k p G4 H4 ((e2.trans e3).trans e4) A4⟩
def SpM4 {α β γ δ : Type} (pre : α → β → γ → δ → Prop) (P : α → β → γ → δ → List Pr) (Ci Co : α → β → γ → δ → Cells) (R : α → β → γ → δ → Pr) : Sp := fun vs H Q _ => ∃ (a : α) (b : β) (c : γ) (d : δ) (G : Hp) (M : Cells), pre a b c d ∧ Als G (P a b c d) vs ∧ At G (Ci a b c d ++ M) H ∧ ∀ v G' H', Same G G' → At G' (Co a b c d ++ M) H' → (R a b c d).h v G' → Q v H'
theorem lenM4 {α β γ δ : Type} {pre : α → β → γ → δ → Prop} {P : α → β → γ → δ → List Pr} {Ci Co : α → β → γ → δ → Cells} {R : α → β → γ → δ → Pr} {n : Nat} (h : ∀ a b c d, (P a b c d).length = n) : ∀ vs H Q E, (SpM4 pre P Ci Co R) vs H Q E → vs.length = n := fun _ _ _ _ ⟨a, b, c, d, _, _, _, ha, _⟩ => ha.len.trans (h a b c d)
theorem bodyM4 {α β γ δ : Type} {pre : α → β → γ → δ → Prop} {P : α → β → γ → δ → List Pr} {Ci Co : α → β → γ → δ → Cells} {R : α → β → γ → δ → Pr} {X : Cx} {bs : List Stmt} {ts : TS} {Nm : List Str} {vs : List V} {H : Hp} {Q : VK} {E : XK} (hd : PSs X.nox bs ts) (hs : ∀ a b c d G M vs, pre a b c d → Als G (P a b c d) vs → Sm ts (start Nm vs) G (Ci a b c d ++ M) (OutR (Co a b c d ++ M) (R a b c d))) (hh : (SpM4 pre P Ci Co R) vs H Q E) :
    ∃ t, PSs X bs t ∧ t { nx := fun _ H' => Q .non H', rt := Q } (start Nm vs) H := by
  obtain ⟨a, b, c, d, G, M, hp, ha, A, k⟩ := hh
  exact ⟨ts, hd.nox, hs a b c d G M vs hp ha G H (Same.refl _) A _ (fin_ok k)⟩
theorem ec_M4 {α β γ δ : Type} {pre : α → β → γ → δ → Prop} {P : α → β → γ → δ → List Pr} {Ci Co : α → β → γ → δ → Cells} {R : α → β → γ → δ → Pr} {tr : TA} {σ : St} {G : Hp} {M N : Cells} {E : XK} {a : α} {b : β} {c : γ} {d : δ} (ha : EvA tr σ G M (Ci a b c d ++ N) (P a b c d)) (hp : pre a b c d) : Ev (tCall (SpM4 pre P Ci Co R) [] E tr) σ G M (Co a b c d ++ N) (R a b c d) := fun G1 H q A Q k => ha G1 H q A _ fun vs G2 H2 e2 A2 hvs => by
  rw [List.append_nil]
  exact ⟨a, b, c, d, G2, N, hp, hvs, A2, fun v G3 H3 e3 A3 hv => k v G3 H3 (e2.trans e3) A3 hv⟩
theorem em_M4 {α β γ δ : Type} {pre : α → β → γ → δ → Prop} {P : α → β → γ → δ → List Pr} {Ci Co : α → β → γ → δ → Cells} {R : α → β → γ → δ → Pr} {tr : TA} {ta : TE} {σ : St} {G : Hp} {M M1 N : Cells} {E : XK} {C : Addr} {m : Str} {φ : Pr} {ps : List Pr} {a : α} {b : β} {c : γ} {d : δ} (ho : Ev ta σ G M M1 φ) (hi : ∀ v G', φ.h v G' → ∃ a dx fs, v = .ref a ∧ G' a = some (.ins C dx fs) ∧ fs.lookup m = none) (ha : EvA tr σ G M1 (Ci a b c d ++ N) ps) (hP : φ :: ps = P a b c d) (hp : pre a b c d) :
    Ev (tMeth C m (SpM4 pre P Ci Co R) [] E ta tr) σ G M (Co a b c d ++ N) (R a b c d) := fun G1 H q A Q k => ho G1 H q A _ fun v G2 H2 e2 A2 hv => by
  obtain ⟨o, dx, fs, h1, h2, h3⟩ := hi v G2 hv
  refine ⟨o, dx, fs, h1, A2.g _ _ h2, h3, ha G2 H2 (q.trans e2) A2 _ fun vs G3 H3 e3 A3 hvs => ?_⟩
  rw [List.append_nil]
  exact ⟨a, b, c, d, G3, N, hp, by rw [← hP]; exact ⟨φ.m e3 hv, hvs⟩, A3, fun v G4 H4 e4 A4 hv => k v G4 H4 ((e2.trans e3).trans e4) A4 hv⟩
def SpO4 {α β γ δ : Type} (pre : α → β → γ → δ → Prop) (P : α → β → γ → δ → List Pr) (Ci Co : α → β → γ → δ → Cells) (R : α → β → γ → δ → List Pr) : Sp := fun vs H Q _ => ∃ (a : α) (b : β) (c : γ) (d : δ) (G : Hp) (M : Cells), pre a b c d ∧ Als G (P a b c d) vs ∧ At G (Ci a b c d ++ M) H ∧ ∀ p G' H', Same G G' → At G' ((p, .lst (R a b c d)) :: (Co a b c d ++ M)) H' → Q (.ref p) H'
theorem lenO4 {α β γ δ : Type} {pre : α → β → γ → δ → Prop} {P : α → β → γ → δ → List Pr} {Ci Co : α → β → γ → δ → Cells} {R : α → β → γ → δ → List Pr} {n : Nat} (h : ∀ a b c d, (P a b c d).length = n) : ∀ vs H Q E, (SpO4 pre P Ci Co R) vs H Q E → vs.length = n := fun _ _ _ _ ⟨a, b, c, d, _, _, _, ha, _⟩ => ha.len.trans (h a b c d)
theorem bodyO4 {α β γ δ : Type} {pre : α → β → γ → δ → Prop} {P : α → β → γ → δ → List Pr} {Ci Co : α → β → γ → δ → Cells} {R : α → β → γ → δ → List Pr} {X : Cx} {bs : List Stmt} {ts : TS} {Nm : List Str} {vs : List V} {H : Hp} {Q : VK} {E : XK} (hd : PSs X.nox bs ts) (hs : ∀ a b c d G M vs, pre a b c d → Als G (P a b c d) vs → Sm ts (start Nm vs) G (Ci a b c d ++ M) (OutO (Co a b c d ++ M) (R a b c d))) (hh : (SpO4 pre P Ci Co R) vs H Q E) :
    ∃ t, PSs X bs t ∧ t { nx := fun _ H' => Q .non H', rt := Q } (start Nm vs) H := by
  obtain ⟨a, b, c, d, G, M, hp, ha, A, k⟩ := hh
  exact ⟨ts, hd.nox, hs a b c d G M vs hp ha G H (Same.refl _) A _ (finO_ok k)⟩
theorem ec_O4 {α β γ δ : Type} {pre : α → β → γ → δ → Prop} {P : α → β → γ → δ → List Pr} {Ci Co : α → β → γ → δ → Cells} {R : α → β → γ → δ → List Pr} {tr : TA} {σ : St} {G : Hp} {M N : Cells} {E : XK} {a : α} {b : β} {c : γ} {d : δ} (ha : EvA tr σ G M (Ci a b c d ++ N) (P a b c d)) (hp : pre a b c d) : EvO (tCall (SpO4 pre P Ci Co R) [] E tr) σ G M (Co a b c d ++ N) (R a b c d) := fun G1 H q A Q k => ha G1 H q A _ fun vs G2 H2 e2 A2 hvs => by
  rw [List.append_nil]
  exact ⟨a, b, c, d, G2, N, hp, hvs, A2, fun p G3 H3 e3 A3 => k p G3 H3 (e2.trans e3) A3⟩
theorem em_O4 {α β γ δ : Type} {pre : α → β → γ → δ → Prop} {P : α → β → γ → δ → List Pr} {Ci Co : α → β → γ → δ → Cells} {R : α → β → γ → δ → List Pr} {tr : TA} {ta : TE} {σ : St} {G : Hp} {M M1 N : Cells} {E : XK} {C : Addr} {m : Str} {φ : Pr} {ps : List Pr} {a : α} {b : β} {c : γ} {d : δ} (ho : Ev ta σ G M M1 φ) (hi : ∀ v G', φ.h v G' → ∃ a dx fs, v = .ref a ∧ G' a = some (.ins C dx fs) ∧ fs.lookup m = none) (ha : EvA tr σ G M1 (Ci a b c d ++ N) ps) (hP : φ :: ps = P a b c d) (hp : pre a b c d) :
    EvO (tMeth C m (SpO4 pre P Ci Co R) [] E ta tr) σ G M (Co a b c d ++ N) (R a b c d) := fun G1 H q A Q k => ho G1 H q A _ fun v G2 H2 e2 A2 hv => by
  obtain ⟨o, dx, fs, h1, h2, h3⟩ := hi v G2 hv
  refine ⟨o, dx, fs, h1, A2.g _ _ h2, h3, ha G2 H2 (q.trans e2) A2 _ fun vs G3 H3 e3 A3 hvs => ?_⟩
  rw [List.append_nil]
  exact ⟨a, b, c, d, G3, N, hp, by rw [← hP]; exact ⟨φ.m e3 hv, hvs⟩, A3, fun p G4 H4 e4 A4 => k p G4 H4 ((e2.trans e3).trans e4) A4⟩
def SpP4 {α β γ δ : Type} (pre : α → β → γ → δ → Prop) (P : α → β → γ → δ → List Pr) (R : α → β → γ → δ → Pr) : Sp := fun vs H Q _ => ∃ (a : α) (b : β) (c : γ) (d : δ) (G : Hp) (M : Cells), pre a b c d ∧ Als G (P a b c d) vs ∧ At G M H ∧ ∀ v G' H', Same G G' → At G' M H' → (R a b c d).h v G' → Q v H'
theorem lenP4 {α β γ δ : Type} {pre : α → β → γ → δ → Prop} {P : α → β → γ → δ → List Pr} {R : α → β → γ → δ → Pr} {n : Nat} (h : ∀ a b c d, (P a b c d).length = n) : ∀ vs H Q E, (SpP4 pre P R) vs H Q E → vs.length = n := fun _ _ _ _ ⟨a, b, c, d, _, _, _, ha, _⟩ => ha.len.trans (h a b c d)
theorem bodyP4 {α β γ δ : Type} {pre : α → β → γ → δ → Prop} {P : α → β → γ → δ → List Pr} {R : α → β → γ → δ → Pr} {X : Cx} {bs : List Stmt} {ts : TS} {Nm : List Str} {vs : List V} {H : Hp} {Q : VK} {E : XK} (hd : PSs X.nox bs ts) (hs : ∀ a b c d G M vs, pre a b c d → Als G (P a b c d) vs → Sm ts (start Nm vs) G M (OutR M (R a b c d))) (hh : (SpP4 pre P R) vs H Q E) :
    ∃ t, PSs X bs t ∧ t { nx := fun _ H' => Q .non H', rt := Q } (start Nm vs) H := by
  obtain ⟨a, b, c, d, G, M, hp, ha, A, k⟩ := hh
  exact ⟨ts, hd.nox, hs a b c d G M vs hp ha G H (Same.refl _) A _ (fin_ok k)⟩
theorem ec_P4 {α β γ δ : Type} {pre : α → β → γ → δ → Prop} {P : α → β → γ → δ → List Pr} {R : α → β → γ → δ → Pr} {tr : TA} {σ : St} {G : Hp} {M N : Cells} {E : XK} {a : α} {b : β} {c : γ} {d : δ} (ha : EvA tr σ G M N (P a b c d)) (hp : pre a b c d) : Ev (tCall (SpP4 pre P R) [] E tr) σ G M N (R a b c d) := fun G1 H q A Q k => ha G1 H q A _ fun vs G2 H2 e2 A2 hvs => by
  rw [List.append_nil]
  exact ⟨a, b, c, d, G2, N, hp, hvs, A2, fun v G3 H3 e3 A3 hv => k v G3 H3 (e2.trans e3) A3 hv⟩
theorem em_P4 {α β γ δ : Type} {pre : α → β → γ → δ → Prop} {P : α → β → γ → δ → List Pr} {R : α → β → γ → δ → Pr} {tr : TA} {ta : TE} {σ : St} {G : Hp} {M M1 N : Cells} {E : XK} {C : Addr} {m : Str} {φ : Pr} {ps : List Pr} {a : α} {b : β} {c : γ} {d : δ} (ho : Ev ta σ G M M1 φ) (hi : ∀ v G', φ.h v G' → ∃ a dx fs, v = .ref a ∧ G' a = some (.ins C dx fs) ∧ fs.lookup m = none) (ha : EvA tr σ G M1 N ps) (hP : φ :: ps = P a b c d) (hp : pre a b c d) :
    Ev (tMeth C m (SpP4 pre P R) [] E ta tr) σ G M N (R a b c d) := fun G1 H q A Q k => ho G1 H q A _ fun v G2 H2 e2 A2 hv => by
  obtain ⟨o, dx, fs, h1, h2, h3⟩ := hi v G2 hv
  refine ⟨o, dx, fs, h1, A2.g _ _ h2, h3, ha G2 H2 (q.trans e2) A2 _ fun vs G3 H3 e3 A3 hvs => ?_⟩
  rw [List.append_nil]
  exact ⟨a, b, c, d, G3, N, hp, by rw [← hP]; exact ⟨φ.m e3 hv, hvs⟩, A3, fun v G4 H4 e4 A4 hv => k v G4 H4 ((e2.trans e3).trans e4) A4 hv⟩
def SpN4 {α β γ δ : Type} (pre : α → β → γ → δ → Prop) (P : α → β → γ → δ → List Pr) (R : α → β → γ → δ → List Pr) : Sp := fun vs H Q _ => ∃ (a : α) (b : β) (c : γ) (d : δ) (G : Hp) (M : Cells), pre a b c d ∧ Als G (P a b c d) vs ∧ At G M H ∧ ∀ p G' H', Same G G' → At G' ((p, .lst (R a b c d)) :: M) H' → Q (.ref p) H'
theorem lenN4 {α β γ δ : Type} {pre : α → β → γ → δ → Prop} {P : α → β → γ → δ → List Pr} {R : α → β → γ → δ → List Pr} {n : Nat} (h : ∀ a b c d, (P a b c d).length = n) : ∀ vs H Q E, (SpN4 pre P R) vs H Q E → vs.length = n := fun _ _ _ _ ⟨a, b, c, d, _, _, _, ha, _⟩ => ha.len.trans (h a b c d)
theorem bodyN4 {α β γ δ : Type} {pre : α → β → γ → δ → Prop} {P : α → β → γ → δ → List Pr} {R : α → β → γ → δ → List Pr} {X : Cx} {bs : List Stmt} {ts : TS} {Nm : List Str} {vs : List V} {H : Hp} {Q : VK} {E : XK} (hd : PSs X.nox bs ts) (hs : ∀ a b c d G M vs, pre a b c d → Als G (P a b c d) vs → Sm ts (start Nm vs) G M (OutO M (R a b c d))) (hh : (SpN4 pre P R) vs H Q E) :
    ∃ t, PSs X bs t ∧ t { nx := fun _ H' => Q .non H', rt := Q } (start Nm vs) H := by
  obtain ⟨a, b, c, d, G, M, hp, ha, A, k⟩ := hh
  exact ⟨ts, hd.nox, hs a b c d G M vs hp ha G H (Same.refl _) A _ (finO_ok k)⟩
theorem ec_N4 {α β γ δ : Type} {pre : α → β → γ → δ → Prop} {P : α → β → γ → δ → List Pr} {R : α → β → γ → δ → List Pr} {tr : TA} {σ : St} {G : Hp} {M N : Cells} {E : XK} {a : α} {b : β} {c : γ} {d : δ} (ha : EvA tr σ G M N (P a b c d)) (hp : pre a b c d) : EvO (tCall (SpN4 pre P R) [] E tr) σ G M N (R a b c d) := fun G1 H q A Q k => ha G1 H q A _ fun vs G2 H2 e2 A2 hvs => by
  rw [List.append_nil]
  exact ⟨a, b, c, d, G2, N, hp, hvs, A2, fun p G3 H3 e3 A3 => k p G3 H3 (e2.trans e3) A3⟩
theorem em_N4 {α β γ δ : Type} {pre : α → β → γ → δ → Prop} {P : α → β → γ → δ → List Pr} {R : α → β → γ → δ → List Pr} {tr : TA} {ta : TE} {σ : St} {G : Hp} {M M1 N : Cells} {E : XK} {C : Addr} {m : Str} {φ : Pr} {ps : List Pr} {a : α} {b : β} {c : γ} {d : δ} (ho : Ev ta σ G M M1 φ) (hi : ∀ v G', φ.h v G' → ∃ a dx fs, v = .ref a ∧ G' a = some (.ins C dx fs) ∧ fs.lookup m = none) (ha : EvA tr σ G M1 N ps) (hP : φ :: ps = P a b c d) (hp : pre a b c d) :
    EvO (tMeth C m (SpN4 pre P R) [] E ta tr) σ G M N (R a b c d) := fun G1 H q A Q k => ho G1 H q A _ fun v G2 H2 e2 A2 hv => by
  obtain ⟨o, dx, fs, h1, h2, h3⟩ := hi v G2 hv
  refine ⟨o, dx, fs, h1, A2.g _ _ h2, h3, ha G2 H2 (q.trans e2) A2 _ fun vs G3 H3 e3 A3 hvs => ?_⟩
  rw [List.append_nil]
  exact ⟨a, b, c, d, G3, N, hp, by rw [← hP]; exact ⟨φ.m e3 hv, hvs⟩, A3, fun p G4 H4 e4 A4 => k p G4 H4 ((e2.trans e3).trans e4) A4⟩
def SpM5 {α β γ δ ε : Type} (pre : α → β → γ → δ → ε → Prop) (P : α → β → γ → δ → ε → List Pr) (Ci Co : α → β → γ → δ → ε → Cells) (R : α → β → γ → δ → ε → Pr) : Sp := fun vs H Q _ => ∃ (a : α) (b : β) (c : γ) (d : δ) (e : ε) (G : Hp) (M : Cells), pre a b c d e ∧ Als G (P a b c d e) vs ∧ At G (Ci a b c d e ++ M) H ∧ ∀ v G' H', Same G G' → At G' (Co a b c d e ++ M) H' → (R a b c d e).h v G' → Q v H'
theorem lenM5 {α β γ δ ε : Type} {pre : α → β → γ → δ → ε → Prop} {P : α → β → γ → δ → ε → List Pr} {Ci Co : α → β → γ → δ → ε → Cells} {R : α → β → γ → δ → ε → Pr} {n : Nat} (h : ∀ a b c d e, (P a b c d e).length = n) : ∀ vs H Q E, (SpM5 pre P Ci Co R) vs H Q E → vs.length = n := fun _ _ _ _ ⟨a, b, c, d, e, _, _, _, ha, _⟩ => ha.len.trans (h a b c d e)
theorem bodyM5 {α β γ δ ε : Type} {pre : α → β → γ → δ → ε → Prop} {P : α → β → γ → δ → ε → List Pr} {Ci Co : α → β → γ → δ → ε → Cells} {R : α → β → γ → δ → ε → Pr} {X : Cx} {bs : List Stmt} {ts : TS} {Nm : List Str} {vs : List V} {H : Hp} {Q : VK} {E : XK} (hd : PSs X.nox bs ts) (hs : ∀ a b c d e G M vs, pre a b c d e → Als G (P a b c d e) vs → Sm ts (start Nm vs) G (Ci a b c d e ++ M) (OutR (Co a b c d e ++ M) (R a b c d e))) (hh : (SpM5 pre P Ci Co R) vs H Q E) :
    ∃ t, PSs X bs t ∧ t { nx := fun _ H' => Q .non H', rt := Q } (start Nm vs) H := by
  obtain ⟨a, b, c, d, e, G, M, hp, ha, A, k⟩ := hh
  exact ⟨ts, hd.nox, hs a b c d e G M vs hp ha G H (Same.refl _) A _ (fin_ok k)⟩
theorem ec_M5 {α β γ δ ε : Type} {pre : α → β → γ → δ → ε → Prop} {P : α → β → γ → δ → ε → List Pr} {Ci Co : α → β → γ → δ → ε → Cells} {R : α → β → γ → δ → ε → Pr} {tr : TA} {σ : St} {G : Hp} {M N : Cells} {E : XK} {a : α} {b : β} {c : γ} {d : δ} {e : ε} (ha : EvA tr σ G M (Ci a b c d e ++ N) (P a b c d e)) (hp : pre a b c d e) : Ev (tCall (SpM5 pre P Ci Co R) [] E tr) σ G M (Co a b c d e ++ N) (R a b c d e) := fun G1 H q A Q k => ha G1 H q A _ fun vs G2 H2 e2 A2 hvs => by
  rw [List.append_nil]
  exact ⟨a, b, c, d, e, G2, N, hp, hvs, A2, fun v G3 H3 e3 A3 hv => k v G3 H3 (e2.trans e3) A3 hv⟩
theorem em_M5 {α β γ δ ε : Type} {pre : α → β → γ → δ → ε → Prop} {P : α → β → γ → δ → ε → List Pr} {Ci Co : α → β → γ → δ → ε → Cells} {R : α → β → γ → δ → ε → Pr} {tr : TA} {ta : TE} {σ : St} {G : Hp} {M M1 N : Cells} {E : XK} {C : Addr} {m : Str} {φ : Pr} {ps : List Pr} {a : α} {b : β} {c : γ} {d : δ} {e : ε} (ho : Ev ta σ G M M1 φ) (hi : ∀ v G', φ.h v G' → ∃ a dx fs, v = .ref a ∧ G' a = some (.ins C dx fs) ∧ fs.lookup m = none) (ha : EvA tr σ G M1 (Ci a b c d e ++ N) ps) (hP : φ :: ps = P a b c d e) (hp : pre a b c d e) :
    Ev (tMeth C m (SpM5 pre P Ci Co R) [] E ta tr) σ G M (Co a b c d e ++ N) (R a b c d e) := fun G1 H q A Q k => ho G1 H q A _ fun v G2 H2 e2 A2 hv => by
  obtain ⟨o, dx, fs, h1, h2, h3⟩ := hi v G2 hv
  refine ⟨o, dx, fs, h1, A2.g _ _ h2, h3, ha G2 H2 (q.trans e2) A2 _ fun vs G3 H3 e3 A3 hvs => ?_⟩
  rw [List.append_nil]
  exact ⟨a, b, c, d, e, G3, N, hp, by rw [← hP]; exact ⟨φ.m e3 hv, hvs⟩, A3, fun v G4 H4 e4 A4 hv => k v G4 H4 ((e2.trans e3).trans e4) A4 hv⟩
def SpO5 {α β γ δ ε : Type} (pre : α → β → γ → δ → ε → Prop) (P : α → β → γ → δ → ε → List Pr) (Ci Co : α → β → γ → δ → ε → Cells) (R : α → β → γ → δ → ε → List Pr) : Sp := fun vs H Q _ => ∃ (a : α) (b : β) (c : γ) (d : δ) (e : ε) (G : Hp) (M : Cells), pre a b c d e ∧ Als G (P a b c d e) vs ∧ At G (Ci a b c d e ++ M) H ∧ ∀ p G' H', Same G G' → At G' ((p, .lst (R a b c d e)) :: (Co a b c d e ++ M)) H' → Q (.ref p) H'
theorem lenO5 {α β γ δ ε : Type} {pre : α → β → γ → δ → ε → Prop} {P : α → β → γ → δ → ε → List Pr} {Ci Co : α → β → γ → δ → ε → Cells} {R : α → β → γ → δ → ε → List Pr} {n : Nat} (h : ∀ a b c d e, (P a b c d e).length = n) : ∀ vs H Q E, (SpO5 pre P Ci Co R) vs H Q E → vs.length = n := fun _ _ _ _ ⟨a, b, c, d, e, _, _, _, ha, _⟩ => ha.len.trans (h a b c d e)
theorem bodyO5 {α β γ δ ε : Type} {pre : α → β → γ → δ → ε → Prop} {P : α → β → γ → δ → ε → List Pr} {Ci Co : α → β → γ → δ → ε → Cells} {R : α → β → γ → δ → ε → List Pr} {X : Cx} {bs : List Stmt} {ts : TS} {Nm : List Str} {vs : List V} {H : Hp} {Q : VK} {E : XK} (hd : PSs X.nox bs ts) (hs : ∀ a b c d e G M vs, pre a b c d e → Als G (P a b c d e) vs → Sm ts (start Nm vs) G (Ci a b c d e ++ M) (OutO (Co a b c d e ++ M) (R a b c d e))) (hh : (SpO5 pre P Ci Co R) vs H Q E) :
    ∃ t, PSs X bs t ∧ t { nx := fun _ H' => Q .non H', rt := Q } (start Nm vs) H := by
  obtain ⟨a, b, c, d, e, G, M, hp, ha, A, k⟩ := hh
  exact ⟨ts, hd.nox, hs a b c d e G M vs hp ha G H (Same.refl _) A _ (finO_ok k)⟩
theorem ec_O5 {α β γ δ ε : Type} {pre : α → β → γ → δ → ε → Prop} {P : α → β → γ → δ → ε → List Pr} {Ci Co : α → β → γ → δ → ε → Cells} {R : α → β → γ → δ → ε → List Pr} {tr : TA} {σ : St} {G : Hp} {M N : Cells} {E : XK} {a : α} {b : β} {c : γ} {d : δ} {e : ε} (ha : EvA tr σ G M (Ci a b c d e ++ N) (P a b c d e)) (hp : pre a b c d e) : EvO (tCall (SpO5 pre P Ci Co R) [] E tr) σ G M (Co a b c d e ++ N) (R a b c d e) := fun G1 H q A Q k => ha G1 H q A _ fun vs G2 H2 e2 A2 hvs => by
  rw [List.append_nil]
  exact ⟨a, b, c, d, e, G2, N, hp, hvs, A2, fun p G3 H3 e3 A3 => k p G3 H3 (e2.trans e3) A3⟩
theorem em_O5 {α β γ δ ε : Type} {pre : α → β → γ → δ → ε → Prop} {P : α → β → γ → δ → ε → List Pr} {Ci Co : α → β → γ → δ → ε → Cells} {R : α → β → γ → δ → ε → List Pr} {tr : TA} {ta : TE} {σ : St} {G : Hp} {M M1 N : Cells} {E : XK} {C : Addr} {m : Str} {φ : Pr} {ps : List Pr} {a : α} {b : β} {c : γ} {d : δ} {e : ε} (ho : Ev ta σ G M M1 φ) (hi : ∀ v G', φ.h v G' → ∃ a dx fs, v = .ref a ∧ G' a = some (.ins C dx fs) ∧ fs.lookup m = none) (ha : EvA tr σ G M1 (Ci a b c d e ++ N) ps) (hP : φ :: ps = P a b c d e) (hp : pre a b c d e) :
    EvO (tMeth C m (SpO5 pre P Ci Co R) [] E ta tr) σ G M (Co a b c d e ++ N) (R a b c d e) := fun G1 H q A Q k => ho G1 H q A _ fun v G2 H2 e2 A2 hv => by
  obtain ⟨o, dx, fs, h1, h2, h3⟩ := hi v G2 hv
  refine ⟨o, dx, fs, h1, A2.g _ _ h2, h3, ha G2 H2 (q.trans e2) A2 _ fun vs G3 H3 e3 A3 hvs => ?_⟩
  rw [List.append_nil]
  exact ⟨a, b, c, d, e, G3, N, hp, by rw [← hP]; exact ⟨φ.m e3 hv, hvs⟩, A3, fun p G4 H4 e4 A4 => k p G4 H4 ((e2.trans e3).trans e4) A4⟩
def SpP5 {α β γ δ ε : Type} (pre : α → β → γ → δ → ε → Prop) (P : α → β → γ → δ → ε → List Pr) (R : α → β → γ → δ → ε → Pr) : Sp := fun vs H Q _ => ∃ (a : α) (b : β) (c : γ) (d : δ) (e : ε) (G : Hp) (M : Cells), pre a b c d e ∧ Als G (P a b c d e) vs ∧ At G M H ∧ ∀ v G' H', Same G G' → At G' M H' → (R a b c d e).h v G' → Q v H'
theorem lenP5 {α β γ δ ε : Type} {pre : α → β → γ → δ → ε → Prop} {P : α → β → γ → δ → ε → List Pr} {R : α → β → γ → δ → ε → Pr} {n : Nat} (h : ∀ a b c d e, (P a b c d e).length = n) : ∀ vs H Q E, (SpP5 pre P R) vs H Q E → vs.length = n := fun _ _ _ _ ⟨a, b, c, d, e, _, _, _, ha, _⟩ => ha.len.trans (h a b c d e)
theorem bodyP5 {α β γ δ ε : Type} {pre : α → β → γ → δ → ε → Prop} {P : α → β → γ → δ → ε → List Pr} {R : α → β → γ → δ → ε → Pr} {X : Cx} {bs : List Stmt} {ts : TS} {Nm : List Str} {vs : List V} {H : Hp} {Q : VK} {E : XK} (hd : PSs X.nox bs ts) (hs : ∀ a b c d e G M vs, pre a b c d e → Als G (P a b c d e) vs → Sm ts (start Nm vs) G M (OutR M (R a b c d e))) (hh : (SpP5 pre P R) vs H Q E) :
    ∃ t, PSs X bs t ∧ t { nx := fun _ H' => Q .non H', rt := Q } (start Nm vs) H := by
  obtain ⟨a, b, c, d, e, G, M, hp, ha, A, k⟩ := hh
  exact ⟨ts, hd.nox, hs a b c d e G M vs hp ha G H (Same.refl _) A _ (fin_ok k)⟩
theorem ec_P5 {α β γ δ ε : Type} {pre : α → β → γ → δ → ε → Prop} {P : α → β → γ → δ → ε → List Pr} {R : α → β → γ → δ → ε → Pr} {tr : TA} {σ : St} {G : Hp} {M N : Cells} {E : XK} {a : α} {b : β} {c : γ} {d : δ} {e : ε} (ha : EvA tr σ G M N (P a b c d e)) (hp : pre a b c d e) : Ev (tCall (SpP5 pre P R) [] E tr) σ G M N (R a b c d e) := fun G1 H q A Q k => ha G1 H q A _ fun vs G2 H2 e2 A2 hvs => by
  rw [List.append_nil]
  exact ⟨a, b, c, d, e, G2, N, hp, hvs, A2, fun v G3 H3 e3 A3 hv => k v G3 H3 (e2.trans e3) A3 hv⟩
theorem em_P5 {α β γ δ ε : Type} {pre : α → β → γ → δ → ε → Prop} {P : α → β → γ → δ → ε → List Pr} {R : α → β → γ → δ → ε → Pr} {tr : TA} {ta : TE} {σ : St} {G : Hp} {M M1 N : Cells} {E : XK} {C : Addr} {m : Str} {φ : Pr} {ps : List Pr} {a : α} {b : β} {c : γ} {d : δ} {e : ε} (ho : Ev ta σ G M M1 φ) (hi : ∀ v G', φ.h v G' → ∃ a dx fs, v = .ref a ∧ G' a = some (.ins C dx fs) ∧ fs.lookup m = none) (ha : EvA tr σ G M1 N ps) (hP : φ :: ps = P a b c d e) (hp : pre a b c d e) :
    Ev (tMeth C m (SpP5 pre P R) [] E ta tr) σ G M N (R a b c d e) := fun G1 H q A Q k => ho G1 H q A _ fun v G2 H2 e2 A2 hv => by
  obtain ⟨o, dx, fs, h1, h2, h3⟩ := hi v G2 hv
  refine ⟨o, dx, fs, h1, A2.g _ _ h2, h3, ha G2 H2 (q.trans e2) A2 _ fun vs G3 H3 e3 A3 hvs => ?_⟩
  rw [List.append_nil]
  exact ⟨a, b, c, d, e, G3, N, hp, by rw [← hP]; exact ⟨φ.m e3 hv, hvs⟩, A3, fun v G4 H4 e4 A4 hv => k v G4 H4 ((e2.trans e3).trans e4) A4 hv⟩
def SpN5 {α β γ δ ε : Type} (pre : α → β → γ → δ → ε → Prop) (P : α → β → γ → δ → ε → List Pr) (R : α → β → γ → δ → ε → List Pr) : Sp := fun vs H Q _ => ∃ (a : α) (b : β) (c : γ) (d : δ) (e : ε) (G : Hp) (M : Cells), pre a b c d e ∧ Als G (P a b c d e) vs ∧ At G M H ∧ ∀ p G' H', Same G G' → At G' ((p, .lst (R a b c d e)) :: M) H' → Q (.ref p) H'
theorem lenN5 {α β γ δ ε : Type} {pre : α → β → γ → δ → ε → Prop} {P : α → β → γ → δ → ε → List Pr} {R : α → β → γ → δ → ε → List Pr} {n : Nat} (h : ∀ a b c d e, (P a b c d e).length = n) : ∀ vs H Q E, (SpN5 pre P R) vs H Q E → vs.length = n := fun _ _ _ _ ⟨a, b, c, d, e, _, _, _, ha, _⟩ => ha.len.trans (h a b c d e)
theorem bodyN5 {α β γ δ ε : Type} {pre : α → β → γ → δ → ε → Prop} {P : α → β → γ → δ → ε → List Pr} {R : α → β → γ → δ → ε → List Pr} {X : Cx} {bs : List Stmt} {ts : TS} {Nm : List Str} {vs : List V} {H : Hp} {Q : VK} {E : XK} (hd : PSs X.nox bs ts) (hs : ∀ a b c d e G M vs, pre a b c d e → Als G (P a b c d e) vs → Sm ts (start Nm vs) G M (OutO M (R a b c d e))) (hh : (SpN5 pre P R) vs H Q E) :
    ∃ t, PSs X bs t ∧ t { nx := fun _ H' => Q .non H', rt := Q } (start Nm vs) H := by
  obtain ⟨a, b, c, d, e, G, M, hp, ha, A, k⟩ := hh
  exact ⟨ts, hd.nox, hs a b c d e G M vs hp ha G H (Same.refl _) A _ (finO_ok k)⟩
theorem ec_N5 {α β γ δ ε : Type} {pre : α → β → γ → δ → ε → Prop} {P : α → β → γ → δ → ε → List Pr} {R : α → β → γ → δ → ε → List Pr} {tr : TA} {σ : St} {G : Hp} {M N : Cells} {E : XK} {a : α} {b : β} {c : γ} {d : δ} {e : ε} (ha : EvA tr σ G M N (P a b c d e)) (hp : pre a b c d e) : EvO (tCall (SpN5 pre P R) [] E tr) σ G M N (R a b c d e) := fun G1 H q A Q k => ha G1 H q A _ fun vs G2 H2 e2 A2 hvs => by
  rw [List.append_nil]
  exact ⟨a, b, c, d, e, G2, N, hp, hvs, A2, fun p G3 H3 e3 A3 => k p G3 H3 (e2.trans e3) A3⟩
theorem em_N5 {α β γ δ ε : Type} {pre : α → β → γ → δ → ε → Prop} {P : α → β → γ → δ → ε → List Pr} {R : α → β → γ → δ → ε → List Pr} {tr : TA} {ta : TE} {σ : St} {G : Hp} {M M1 N : Cells} {E : XK} {C : Addr} {m : Str} {φ : Pr} {ps : List Pr} {a : α} {b : β} {c : γ} {d : δ} {e : ε} (ho : Ev ta σ G M M1 φ) (hi : ∀ v G', φ.h v G' → ∃ a dx fs, v = .ref a ∧ G' a = some (.ins C dx fs) ∧ fs.lookup m = none) (ha : EvA tr σ G M1 N ps) (hP : φ :: ps = P a b c d e) (hp : pre a b c d e) :
    EvO (tMeth C m (SpN5 pre P R) [] E ta tr) σ G M N (R a b c d e) := fun G1 H q A Q k => ho G1 H q A _ fun v G2 H2 e2 A2 hv => by
  obtain ⟨o, dx, fs, h1, h2, h3⟩ := hi v G2 hv
  refine ⟨o, dx, fs, h1, A2.g _ _ h2, h3, ha G2 H2 (q.trans e2) A2 _ fun vs G3 H3 e3 A3 hvs => ?_⟩
  rw [List.append_nil]
  exact ⟨a, b, c, d, e, G3, N, hp, by rw [← hP]; exact ⟨φ.m e3 hv, hvs⟩, A3, fun p G4 H4 e4 A4 => k p G4 H4 ((e2.trans e3).trans e4) A4⟩
def SpM6 {α β γ δ ε ζ : Type} (pre : α → β → γ → δ → ε → ζ → Prop) (P : α → β → γ → δ → ε → ζ → List Pr) (Ci Co : α → β → γ → δ → ε → ζ → Cells) (R : α → β → γ → δ → ε → ζ → Pr) : Sp := fun vs H Q _ => ∃ (a : α) (b : β) (c : γ) (d : δ) (e : ε) (f : ζ) (G : Hp) (M : Cells), pre a b c d e f ∧ Als G (P a b c d e f) vs ∧ At G (Ci a b c d e f ++ M) H ∧ ∀ v G' H', Same G G' → At G' (Co a b c d e f ++ M) H' → (R a b c d e f).h v G' → Q v H'
theorem lenM6 {α β γ δ ε ζ : Type} {pre : α → β → γ → δ → ε → ζ → Prop} {P : α → β → γ → δ → ε → ζ → List Pr} {Ci Co : α → β → γ → δ → ε → ζ → Cells} {R : α → β → γ → δ → ε → ζ → Pr} {n : Nat} (h : ∀ a b c d e f, (P a b c d e f).length = n) : ∀ vs H Q E, (SpM6 pre P Ci Co R) vs H Q E → vs.length = n := fun _ _ _ _ ⟨a, b, c, d, e, f, _, _, _, ha, _⟩ => ha.len.trans (h a b c d e f)
theorem bodyM6 {α β γ δ ε ζ : Type} {pre : α → β → γ → δ → ε → ζ → Prop} {P : α → β → γ → δ → ε → ζ → List Pr} {Ci Co : α → β → γ → δ → ε → ζ → Cells} {R : α → β → γ → δ → ε → ζ → Pr} {X : Cx} {bs : List Stmt} {ts : TS} {Nm : List Str} {vs : List V} {H : Hp} {Q : VK} {E : XK} (hd : PSs X.nox bs ts) (hs : ∀ a b c d e f G M vs, pre a b c d e f → Als G (P a b c d e f) vs → Sm ts (start Nm vs) G (Ci a b c d e f ++ M) (OutR (Co a b c d e f ++ M) (R a b c d e f))) (hh : (SpM6 pre P Ci Co R) vs H Q E) :
    ∃ t, PSs X bs t ∧ t { nx := fun _ H' => Q .non H', rt := Q } (start Nm vs) H := by
  obtain ⟨a, b, c, d, e, f, G, M, hp, ha, A, k⟩ := hh
  exact ⟨ts, hd.nox, hs a b c d e f G M vs hp ha G H (Same.refl _) A _ (fin_ok k)⟩
theorem ec_M6 {α β γ δ ε ζ : Type} {pre : α → β → γ → δ → ε → ζ → Prop} {P : α → β → γ → δ → ε → ζ → List Pr} {Ci Co : α → β → γ → δ → ε → ζ → Cells} {R : α → β → γ → δ → ε → ζ → Pr} {tr : TA} {σ : St} {G : Hp} {M N : Cells} {E : XK} {a : α} {b : β} {c : γ} {d : δ} {e : ε} {f : ζ} (ha : EvA tr σ G M (Ci a b c d e f ++ N) (P a b c d e f)) (hp : pre a b c d e f) : Ev (tCall (SpM6 pre P Ci Co R) [] E tr) σ G M (Co a b c d e f ++ N) (R a b c d e f) := fun G1 H q A Q k => ha G1 H q A _ fun vs G2 H2 e2 A2 hvs => by
  rw [List.append_nil]
  exact ⟨a, b, c, d, e, f, G2, N, hp, hvs, A2, fun v G3 H3 e3 A3 hv => k v G3 H3 (e2.trans e3) A3 hv⟩
theorem em_M6 {α β γ δ ε ζ : Type} {pre : α → β → γ → δ → ε → ζ → Prop} {P : α → β → γ → δ → ε → ζ → List Pr} {Ci Co : α → β → γ → δ → ε → ζ → Cells} {R : α → β → γ → δ → ε → ζ → Pr} {tr : TA} {ta : TE} {σ : St} {G : Hp} {M M1 N : Cells} {E : XK} {C : Addr} {m : Str} {φ : Pr} {ps : List Pr} {a : α} {b : β} {c : γ} {d : δ} {e : ε} {f : ζ} (ho : Ev ta σ G M M1 φ) (hi : ∀ v G', φ.h v G' → ∃ a dx fs, v = .ref a ∧ G' a = some (.ins C dx fs) ∧ fs.lookup m = none) (ha : EvA tr σ G M1 (Ci a b c d e f ++ N) ps) (hP : φ :: ps = P a b c d e f) (hp : pre a b c d e f) :
    Ev (tMeth C m (SpM6 pre P Ci Co R) [] E ta tr) σ G M (Co a b c d e f ++ N) (R a b c d e f) := fun G1 H q A Q k => ho G1 H q A _ fun v G2 H2 e2 A2 hv => by
  obtain ⟨o, dx, fs, h1, h2, h3⟩ := hi v G2 hv
  refine ⟨o, dx, fs, h1, A2.g _ _ h2, h3, ha G2 H2 (q.trans e2) A2 _ fun vs G3 H3 e3 A3 hvs => ?_⟩
  rw [List.append_nil]
  exact ⟨a, b, c, d, e, f, G3, N, hp, by rw [← hP]; exact ⟨φ.m e3 hv, hvs⟩, A3, fun v G4 H4 e4 A4 hv => k v G4 H4 ((e2.trans e3).trans e4) A4 hv⟩
def SpO6 {α β γ δ ε ζ : Type} (pre : α → β → γ → δ → ε → ζ → Prop) (P : α → β → γ → δ → ε → ζ → List Pr) (Ci Co : α → β → γ → δ → ε → ζ → Cells) (R : α → β → γ → δ → ε → ζ → List Pr) : Sp := fun vs H Q _ => ∃ (a : α) (b : β) (c : γ) (d : δ) (e : ε) (f : ζ) (G : Hp) (M : Cells), pre a b c d e f ∧ Als G (P a b c d e f) vs ∧ At G (Ci a b c d e f ++ M) H ∧ ∀ p G' H', Same G G' → At G' ((p, .lst (R a b c d e f)) :: (Co a b c d e f ++ M)) H' → Q (.ref p) H'
theorem lenO6 {α β γ δ ε ζ : Type} {pre : α → β → γ → δ → ε → ζ → Prop} {P : α → β → γ → δ → ε → ζ → List Pr} {Ci Co : α → β → γ → δ → ε → ζ → Cells} {R : α → β → γ → δ → ε → ζ → List Pr} {n : Nat} (h : ∀ a b c d e f, (P a b c d e f).length = n) : ∀ vs H Q E, (SpO6 pre P Ci Co R) vs H Q E → vs.length = n := fun _ _ _ _ ⟨a, b, c, d, e, f, _, _, _, ha, _⟩ => ha.len.trans (h a b c d e f)
theorem bodyO6 {α β γ δ ε ζ : Type} {pre : α → β → γ → δ → ε → ζ → Prop} {P : α → β → γ → δ → ε → ζ → List Pr} {Ci Co : α → β → γ → δ → ε → ζ → Cells} {R : α → β → γ → δ → ε → ζ → List Pr} {X : Cx} {bs : List Stmt} {ts : TS} {Nm : List Str} {vs : List V} {H : Hp} {Q : VK} {E : XK} (hd : PSs X.nox bs ts) (hs : ∀ a b c d e f G M vs, pre a b c d e f → Als G (P a b c d e f) vs → Sm ts (start Nm vs) G (Ci a b c d e f ++ M) (OutO (Co a b c d e f ++ M) (R a b c d e f))) (hh : (SpO6 pre P Ci Co R) vs H Q E) :
    ∃ t, PSs X bs t ∧ t { nx := fun _ H' => Q .non H', rt := Q } (start Nm vs) H := by
  obtain ⟨a, b, c, d, e, f, G, M, hp, ha, A, k⟩ := hh
  exact ⟨ts, hd.nox, hs a b c d e f G M vs hp ha G H (Same.refl _) A _ (finO_ok k)⟩
theorem ec_O6 {α β γ δ ε ζ : Type} {pre : α → β → γ → δ → ε → ζ → Prop} {P : α → β → γ → δ → ε → ζ → List Pr} {Ci Co : α → β → γ → δ → ε → ζ → Cells} {R : α → β → γ → δ → ε → ζ → List Pr} {tr : TA} {σ : St} {G : Hp} {M N : Cells} {E : XK} {a : α} {b : β} {c : γ} {d : δ} {e : ε} {f : ζ} (ha : EvA tr σ G M (Ci a b c d e f ++ N) (P a b c d e f)) (hp : pre a b c d e f) : EvO (tCall (SpO6 pre P Ci Co R) [] E tr) σ G M (Co a b c d e f ++ N) (R a b c d e f) := fun G1 H q A Q k => ha G1 H q A _ fun vs G2 H2 e2 A2 hvs => by
  rw [List.append_nil]
  exact ⟨a, b, c, d, e, f, G2, N, hp, hvs, A2, fun p G3 H3 e3 A3 => k p G3 H3 (e2.trans e3) A3⟩
theorem em_O6 {α β γ δ ε ζ : Type} {pre : α → β → γ → δ → ε → ζ → Prop} {P : α → β → γ → δ → ε → ζ → List Pr} {Ci Co : α → β → γ → δ → ε → ζ → Cells} {R : α → β → γ → δ → ε → ζ → List Pr} {tr : TA} {ta : TE} {σ : St} {G : Hp} {M M1 N : Cells} {E : XK} {C : Addr} {m : Str} {φ : Pr} {ps : List Pr} {a : α} {b : β} {c : γ} {d : δ} {e : ε} {f : ζ} (ho : Ev ta σ G M M1 φ) (hi : ∀ v G', φ.h v G' → ∃ a dx fs, v = .ref a ∧ G' a = some (.ins C dx fs) ∧ fs.lookup m = none) (ha : EvA tr σ G M1 (Ci a b c d e f ++ N) ps) (hP : φ :: ps = P a b c d e f) (hp : pre a b c d e f) :
    EvO (tMeth C m (SpO6 pre P Ci Co R) [] E ta tr) σ G M (Co a b c d e f ++ N) (R a b c d e f) := fun G1 H q A Q k => ho G1 H q A _ fun v G2 H2 e2 A2 hv => by
  obtain ⟨o, dx, fs, h1, h2, h3⟩ := hi v G2 hv
  refine ⟨o, dx, fs, h1, A2.g _ _ h2, h3, ha G2 H2 (q.trans e2) A2 _ fun vs G3 H3 e3 A3 hvs => ?_⟩
  rw [List.append_nil]
  exact ⟨a, b, c, d, e, f, G3, N, hp, by rw [← hP]; exact ⟨φ.m e3 hv, hvs⟩, A3, fun p G4 H4 e4 A4 => k p G4 H4 ((e2.trans e3).trans e4) A4⟩
def SpP6 {α β γ δ ε ζ : Type} (pre : α → β → γ → δ → ε → ζ → Prop) (P : α → β → γ → δ → ε → ζ → List Pr) (R : α → β → γ → δ → ε → ζ → Pr) : Sp := fun vs H Q _ => ∃ (a : α) (b : β) (c : γ) (d : δ) (e : ε) (f : ζ) (G : Hp) (M : Cells), pre a b c d e f ∧ Als G (P a b c d e f) vs ∧ At G M H ∧ ∀ v G' H', Same G G' → At G' M H' → (R a b c d e f).h v G' → Q v H'
theorem lenP6 {α β γ δ ε ζ : Type} {pre : α → β → γ → δ → ε → ζ → Prop} {P : α → β → γ → δ → ε → ζ → List Pr} {R : α → β → γ → δ → ε → ζ → Pr} {n : Nat} (h : ∀ a b c d e f, (P a b c d e f).length = n) : ∀ vs H Q E, (SpP6 pre P R) vs H Q E → vs.length = n := fun _ _ _ _ ⟨a, b, c, d, e, f, _, _, _, ha, _⟩ => ha.len.trans (h a b c d e f)
theorem bodyP6 {α β γ δ ε ζ : Type} {pre : α → β → γ → δ → ε → ζ → Prop} {P : α → β → γ → δ → ε → ζ → List Pr} {R : α → β → γ → δ → ε → ζ → Pr} {X : Cx} {bs : List Stmt} {ts : TS} {Nm : List Str} {vs : List V} {H : Hp} {Q : VK} {E : XK} (hd : PSs X.nox bs ts) (hs : ∀ a b c d e f G M vs, pre a b c d e f → Als G (P a b c d e f) vs → Sm ts (start Nm vs) G M (OutR M (R a b c d e f))) (hh : (SpP6 pre P R) vs H Q E) :
    ∃ t, PSs X bs t ∧ t { nx := fun _ H' => Q .non H', rt := Q } (start Nm vs) H := by
  obtain ⟨a, b, c, d, e, f, G, M, hp, ha, A, k⟩ := hh
  exact ⟨ts, hd.nox, hs a b c d e f G M vs hp ha G H (Same.refl _) A _ (fin_ok k)⟩
theorem ec_P6 {α β γ δ ε ζ : Type} {pre : α → β → γ → δ → ε → ζ → Prop} {P : α → β → γ → δ → ε → ζ → List Pr} {R : α → β → γ → δ → ε → ζ → Pr} {tr : TA} {σ : St} {G : Hp} {M N : Cells} {E : XK} {a : α} {b : β} {c : γ} {d : δ} {e : ε} {f : ζ} (ha : EvA tr σ G M N (P a b c d e f)) (hp : pre a b c d e f) : Ev (tCall (SpP6 pre P R) [] E tr) σ G M N (R a b c d e f) := fun G1 H q A Q k => ha G1 H q A _ fun vs G2 H2 e2 A2 hvs => by
  rw [List.append_nil]
  exact ⟨a, b, c, d, e, f, G2, N, hp, hvs, A2, fun v G3 H3 e3 A3 hv => k v G3 H3 (e2.trans e3) A3 hv⟩
theorem em_P6 {α β γ δ ε ζ : Type} {pre : α → β → γ → δ → ε → ζ → Prop} {P : α → β → γ → δ → ε → ζ → List Pr} {R : α → β → γ → δ → ε → ζ → Pr} {tr : TA} {ta : TE} {σ : St} {G : Hp} {M M1 N : Cells} {E : XK} {C : Addr} {m : Str} {φ : Pr} {ps : List Pr} {a : α} {b : β} {c : γ} {d : δ} {e : ε} {f : ζ} (ho : Ev ta σ G M M1 φ) (hi : ∀ v G', φ.h v G' → ∃ a dx fs, v = .ref a ∧ G' a = some (.ins C dx fs) ∧ fs.lookup m = none) (ha : EvA tr σ G M1 N ps) (hP : φ :: ps = P a b c d e f) (hp : pre a b c d e f) :
    Ev (tMeth C m (SpP6 pre P R) [] E ta tr) σ G M N (R a b c d e f) := fun G1 H q A Q k => ho G1 H q A _ fun v G2 H2 e2 A2 hv => by
  obtain ⟨o, dx, fs, h1, h2, h3⟩ := hi v G2 hv
  refine ⟨o, dx, fs, h1, A2.g _ _ h2, h3, ha G2 H2 (q.trans e2) A2 _ fun vs G3 H3 e3 A3 hvs => ?_⟩
  rw [List.append_nil]
  exact ⟨a, b, c, d, e, f, G3, N, hp, by rw [← hP]; exact ⟨φ.m e3 hv, hvs⟩, A3, fun v G4 H4 e4 A4 hv => k v G4 H4 ((e2.trans e3).trans e4) A4 hv⟩
def SpN6 {α β γ δ ε ζ : Type} (pre : α → β → γ → δ → ε → ζ → Prop) (P : α → β → γ → δ → ε → ζ → List Pr) (R : α → β → γ → δ → ε → ζ → List Pr) : Sp := fun vs H Q _ => ∃ (a : α) (b : β) (c : γ) (d : δ) (e : ε) (f : ζ) (G : Hp) (M : Cells), pre a b c d e f ∧ Als G (P a b c d e f) vs ∧ At G M H ∧ ∀ p G' H', Same G G' → At G' ((p, .lst (R a b c d e f)) :: M) H' → Q (.ref p) H'
theorem lenN6 {α β γ δ ε ζ : Type} {pre : α → β → γ → δ → ε → ζ → Prop} {P : α → β → γ → δ → ε → ζ → List Pr} {R : α → β → γ → δ → ε → ζ → List Pr} {n : Nat} (h : ∀ a b c d e f, (P a b c d e f).length = n) : ∀ vs H Q E, (SpN6 pre P R) vs H Q E → vs.length = n := fun _ _ _ _ ⟨a, b, c, d, e, f, _, _, _, ha, _⟩ => ha.len.trans (h a b c d e f)
theorem bodyN6 {α β γ δ ε ζ : Type} {pre : α → β → γ → δ → ε → ζ → Prop} {P : α → β → γ → δ → ε → ζ → List Pr} {R : α → β → γ → δ → ε → ζ → List Pr} {X : Cx} {bs : List Stmt} {ts : TS} {Nm : List Str} {vs : List V} {H : Hp} {Q : VK} {E : XK} (hd : PSs X.nox bs ts) (hs : ∀ a b c d e f G M vs, pre a b c d e f → Als G (P a b c d e f) vs → Sm ts (start Nm vs) G M (OutO M (R a b c d e f))) (hh : (SpN6 pre P R) vs H Q E) :
    ∃ t, PSs X bs t ∧ t { nx := fun _ H' => Q .non H', rt := Q } (start Nm vs) H := by
  obtain ⟨a, b, c, d, e, f, G, M, hp, ha, A, k⟩ := hh
  exact ⟨ts, hd.nox, hs a b c d e f G M vs hp ha G H (Same.refl _) A _ (finO_ok k)⟩
theorem ec_N6 {α β γ δ ε ζ : Type} {pre : α → β → γ → δ → ε → ζ → Prop} {P : α → β → γ → δ → ε → ζ → List Pr} {R : α → β → γ → δ → ε → ζ → List Pr} {tr : TA} {σ : St} {G : Hp} {M N : Cells} {E : XK} {a : α} {b : β} {c : γ} {d : δ} {e : ε} {f : ζ} (ha : EvA tr σ G M N (P a b c d e f)) (hp : pre a b c d e f) : EvO (tCall (SpN6 pre P R) [] E tr) σ G M N (R a b c d e f) := fun G1 H q A Q k => ha G1 H q A _ fun vs G2 H2 e2 A2 hvs => by
  rw [List.append_nil]
  exact ⟨a, b, c, d, e, f, G2, N, hp, hvs, A2, fun p G3 H3 e3 A3 => k p G3 H3 (e2.trans e3) A3⟩
theorem em_N6 {α β γ δ ε ζ : Type} {pre : α → β → γ → δ → ε → ζ → Prop} {P : α → β → γ → δ → ε → ζ → List Pr} {R : α → β → γ → δ → ε → ζ → List Pr} {tr : TA} {ta : TE} {σ : St} {G : Hp} {M M1 N : Cells} {E : XK} {C : Addr} {m : Str} {φ : Pr} {ps : List Pr} {a : α} {b : β} {c : γ} {d : δ} {e : ε} {f : ζ} (ho : Ev ta σ G M M1 φ) (hi : ∀ v G', φ.h v G' → ∃ a dx fs, v = .ref a ∧ G' a = some (.ins C dx fs) ∧ fs.lookup m = none) (ha : EvA tr σ G M1 N ps) (hP : φ :: ps = P a b c d e f) (hp : pre a b c d e f) :
    EvO (tMeth C m (SpN6 pre P R) [] E ta tr) σ G M N (R a b c d e f) := fun G1 H q A Q k => ho G1 H q A _ fun v G2 H2 e2 A2 hv => by
  obtain ⟨o, dx, fs, h1, h2, h3⟩ := hi v G2 hv
  refine ⟨o, dx, fs, h1, A2.g _ _ h2, h3, ha G2 H2 (q.trans e2) A2 _ fun vs G3 H3 e3 A3 hvs => ?_⟩
  rw [List.append_nil]
  exact ⟨a, b, c, d, e, f, G3, N, hp, by rw [← hP]; exact ⟨φ.m e3 hv, hvs⟩, A3, fun p G4 H4 e4 A4 => k p G4 H4 ((e2.trans e3).trans e4) A4⟩
def SpM7 {α β γ δ ε ζ η : Type} (pre : α → β → γ → δ → ε → ζ → η → Prop) (P : α → β → γ → δ → ε → ζ → η → List Pr) (Ci Co : α → β → γ → δ → ε → ζ → η → Cells) (R : α → β → γ → δ → ε → ζ → η → Pr) : Sp := fun vs H Q _ => ∃ (a : α) (b : β) (c : γ) (d : δ) (e : ε) (f : ζ) (g : η) (G : Hp) (M : Cells), pre a b c d e f g ∧ Als G (P a b c d e f g) vs ∧ At G (Ci a b c d e f g ++ M) H ∧ ∀ v G' H', Same G G' → At G' (Co a b c d e f g ++ M) H' → (R a b c d e f g).h v G' → Q v H'
theorem lenM7 {α β γ δ ε ζ η : Type} {pre : α → β → γ → δ → ε → ζ → η → Prop} {P : α → β → γ → δ → ε → ζ → η → List Pr} {Ci Co : α → β → γ → δ → ε → ζ → η → Cells} {R : α → β → γ → δ → ε → ζ → η → Pr} {n : Nat} (h : ∀ a b c d e f g, (P a b c d e f g).length = n) : ∀ vs H Q E, (SpM7 pre P Ci Co R) vs H Q E → vs.length = n := fun _ _ _ _ ⟨a, b, c, d, e, f, g, _, _, _, ha, _⟩ => ha.len.trans (h a b c d e f g)
theorem bodyM7 {α β γ δ ε ζ η : Type} {pre : α → β → γ → δ → ε → ζ → η → Prop} {P : α → β → γ → δ → ε → ζ → η → List Pr} {Ci Co : α → β → γ → δ → ε → ζ → η → Cells} {R : α → β → γ → δ → ε → ζ → η → Pr} {X : Cx} {bs : List Stmt} {ts : TS} {Nm : List Str} {vs : List V} {H : Hp} {Q : VK} {E : XK} (hd : PSs X.nox bs ts) (hs : ∀ a b c d e f g G M vs, pre a b c d e f g → Als G (P a b c d e f g) vs → Sm ts (start Nm vs) G (Ci a b c d e f g ++ M) (OutR (Co a b c d e f g ++ M) (R a b c d e f g))) (hh : (SpM7 pre P Ci Co R) vs H Q E) :
    ∃ t, PSs X bs t ∧ t { nx := fun _ H' => Q .non H', rt := Q } (start Nm vs) H := by
  obtain ⟨a, b, c, d, e, f, g, G, M, hp, ha, A, k⟩ := hh
  exact ⟨ts, hd.nox, hs a b c d e f g G M vs hp ha G H (Same.refl _) A _ (fin_ok k)⟩
theorem ec_M7 {α β γ δ ε ζ η : Type} {pre : α → β → γ → δ → ε → ζ → η → Prop} {P : α → β → γ → δ → ε → ζ → η → List Pr} {Ci Co : α → β → γ → δ → ε → ζ → η → Cells} {R : α → β → γ → δ → ε → ζ → η → Pr} {tr : TA} {σ : St} {G : Hp} {M N : Cells} {E : XK} {a : α} {b : β} {c : γ} {d : δ} {e : ε} {f : ζ} {g : η} (ha : EvA tr σ G M (Ci a b c d e f g ++ N) (P a b c d e f g)) (hp : pre a b c d e f g) : Ev (tCall (SpM7 pre P Ci Co R) [] E tr) σ G M (Co a b c d e f g ++ N) (R a b c d e f g) := fun G1 H q A Q k => ha G1 H q A _ fun vs G2 H2 e2 A2 hvs => by
  rw [List.append_nil]
  exact ⟨a, b, c, d, e, f, g, G2, N, hp, hvs, A2, fun v G3 H3 e3 A3 hv => k v G3 H3 (e2.trans e3) A3 hv⟩
theorem em_M7 {α β γ δ ε ζ η : Type} {pre : α → β → γ → δ → ε → ζ → η → Prop} {P : α → β → γ → δ → ε → ζ → η → List Pr} {Ci Co : α → β → γ → δ → ε → ζ → η → Cells} {R : α → β → γ → δ → ε → ζ → η → Pr} {tr : TA} {ta : TE} {σ : St} {G : Hp} {M M1 N : Cells} {E : XK} {C : Addr} {m : Str} {φ : Pr} {ps : List Pr} {a : α} {b : β} {c : γ} {d : δ} {e : ε} {f : ζ} {g : η} (ho : Ev ta σ G M M1 φ) (hi : ∀ v G', φ.h v G' → ∃ a dx fs, v = .ref a ∧ G' a = some (.ins C dx fs) ∧ fs.lookup m = none) (ha : EvA tr σ G M1 (Ci a b c d e f g ++ N) ps) (hP : φ :: ps = P a b c d e f g) (hp : pre a b c d e f g) :
    Ev (tMeth C m (SpM7 pre P Ci Co R) [] E ta tr) σ G M (Co a b c d e f g ++ N) (R a b c d e f g) := fun G1 H q A Q k => ho G1 H q A _ fun v G2 H2 e2 A2 hv => by
  obtain ⟨o, dx, fs, h1, h2, h3⟩ := hi v G2 hv
  refine ⟨o, dx, fs, h1, A2.g _ _ h2, h3, ha G2 H2 (q.trans e2) A2 _ fun vs G3 H3 e3 A3 hvs => ?_⟩
  rw [List.append_nil]
  exact ⟨a, b, c, d, e, f, g, G3, N, hp, by rw [← hP]; exact ⟨φ.m e3 hv, hvs⟩, A3, fun v G4 H4 e4 A4 hv => k v G4 H4 ((e2.trans e3).trans e4) A4 hv⟩
def SpO7 {α β γ δ ε ζ η : Type} (pre : α → β → γ → δ → ε → ζ → η → Prop) (P : α → β → γ → δ → ε → ζ → η → List Pr) (Ci Co : α → β → γ → δ → ε → ζ → η → Cells) (R : α → β → γ → δ → ε → ζ → η → List Pr) : Sp := fun vs H Q _ => ∃ (a : α) (b : β) (c : γ) (d : δ) (e : ε) (f : ζ) (g : η) (G : Hp) (M : Cells), pre a b c d e f g ∧ Als G (P a b c d e f g) vs ∧ At G (Ci a b c d e f g ++ M) H ∧ ∀ p G' H', Same G G' → At G' ((p, .lst (R a b c d e f g)) :: (Co a b c d e f g ++ M)) H' → Q (.ref p) H'
theorem lenO7 {α β γ δ ε ζ η : Type} {pre : α → β → γ → δ → ε → ζ → η → Prop} {P : α → β → γ → δ → ε → ζ → η → List Pr} {Ci Co : α → β → γ → δ → ε → ζ → η → Cells} {R : α → β → γ → δ → ε → ζ → η → List Pr} {n : Nat} (h : ∀ a b c d e f g, (P a b c d e f g).length = n) : ∀ vs H Q E, (SpO7 pre P Ci Co R) vs H Q E → vs.length = n := fun _ _ _ _ ⟨a, b, c, d, e, f, g, _, _, _, ha, _⟩ => ha.len.trans (h a b c d e f g)
theorem bodyO7 {α β γ δ ε ζ η : Type} {pre : α → β → γ → δ → ε → ζ → η → Prop} {P : α → β → γ → δ → ε → ζ → η → List Pr} {Ci Co : α → β → γ → δ → ε → ζ → η → Cells} {R : α → β → γ → δ → ε → ζ → η → List Pr} {X : Cx} {bs : List Stmt} {ts : TS} {Nm : List Str} {vs : List V} {H : Hp} {Q : VK} {E : XK} (hd : PSs X.nox bs ts) (hs : ∀ a b c d e f g G M vs, pre a b c d e f g → Als G (P a b c d e f g) vs → Sm ts (start Nm vs) G (Ci a b c d e f g ++ M) (OutO (Co a b c d e f g ++ M) (R a b c d e f g))) (hh : (SpO7 pre P Ci Co R) vs H Q E) :
    ∃ t, PSs X bs t ∧ t { nx := fun _ H' => Q .non H', rt := Q } (start Nm vs) H := by
  obtain ⟨a, b, c, d, e, f, g, G, M, hp, ha, A, k⟩ := hh
  exact ⟨ts, hd.nox, hs a b c d e f g G M vs hp ha G H (Same.refl _) A _ (finO_ok k)⟩
theorem ec_O7 {α β γ δ ε ζ η : Type} {pre : α → β → γ → δ → ε → ζ → η → Prop} {P : α → β → γ → δ → ε → ζ → η → List Pr} {Ci Co : α → β → γ → δ → ε → ζ → η → Cells} {R : α → β → γ → δ → ε → ζ → η → List Pr} {tr : TA} {σ : St} {G : Hp} {M N : Cells} {E : XK} {a : α} {b : β} {c : γ} {d : δ} {e : ε} {f : ζ} {g : η} (ha : EvA tr σ G M (Ci a b c d e f g ++ N) (P a b c d e f g)) (hp : pre a b c d e f g) : EvO (tCall (SpO7 pre P Ci Co R) [] E tr) σ G M (Co a b c d e f g ++ N) (R a b c d e f g) := fun G1 H q A Q k => ha G1 H q A _ fun vs G2 H2 e2 A2 hvs => by
  rw [List.append_nil]
  exact ⟨a, b, c, d, e, f, g, G2, N, hp, hvs, A2, fun p G3 H3 e3 A3 => k p G3 H3 (e2.trans e3) A3⟩
theorem em_O7 {α β γ δ ε ζ η : Type} {pre : α → β → γ → δ → ε → ζ → η → Prop} {P : α → β → γ → δ → ε → ζ → η → List Pr} {Ci Co : α → β → γ → δ → ε → ζ → η → Cells} {R : α → β → γ → δ → ε → ζ → η → List Pr} {tr : TA} {ta : TE} {σ : St} {G : Hp} {M M1 N : Cells} {E : XK} {C : Addr} {m : Str} {φ : Pr} {ps : List Pr} {a : α} {b : β} {c : γ} {d : δ} {e : ε} {f : ζ} {g : η} (ho : Ev ta σ G M M1 φ) (hi : ∀ v G', φ.h v G' → ∃ a dx fs, v = .ref a ∧ G' a = some (.ins C dx fs) ∧ fs.lookup m = none) (ha : EvA tr σ G M1 (Ci a b c d e f g ++ N) ps) (hP : φ :: ps = P a b c d e f g) (hp : pre a b c d e f g) :
    EvO (tMeth C m (SpO7 pre P Ci Co R) [] E ta tr) σ G M (Co a b c d e f g ++ N) (R a b c d e f g) := fun G1 H q A Q k => ho G1 H q A _ fun v G2 H2 e2 A2 hv => by
  obtain ⟨o, dx, fs, h1, h2, h3⟩ := hi v G2 hv
  refine ⟨o, dx, fs, h1, A2.g _ _ h2, h3, ha G2 H2 (q.trans e2) A2 _ fun vs G3 H3 e3 A3 hvs => ?_⟩
  rw [List.append_nil]
  exact ⟨a, b, c, d, e, f, g, G3, N, hp, by rw [← hP]; exact ⟨φ.m e3 hv, hvs⟩, A3, fun p G4 H4 e4 A4 => k p G4 H4 ((e2.trans e3).trans e4) A4⟩
def SpP7 {α β γ δ ε ζ η : Type} (pre : α → β → γ → δ → ε → ζ → η → Prop) (P : α → β → γ → δ → ε → ζ → η → List Pr) (R : α → β → γ → δ → ε → ζ → η → Pr) : Sp := fun vs H Q _ => ∃ (a : α) (b : β) (c : γ) (d : δ) (e : ε) (f : ζ) (g : η) (G : Hp) (M : Cells), pre a b c d e f g ∧ Als G (P a b c d e f g) vs ∧ At G M H ∧ ∀ v G' H', Same G G' → At G' M H' → (R a b c d e f g).h v G' → Q v H'
theorem lenP7 {α β γ δ ε ζ η : Type} {pre : α → β → γ → δ → ε → ζ → η → Prop} {P : α → β → γ → δ → ε → ζ → η → List Pr} {R : α → β → γ → δ → ε → ζ → η → Pr} {n : Nat} (h : ∀ a b c d e f g, (P a b c d e f g).length = n) : ∀ vs H Q E, (SpP7 pre P R) vs H Q E → vs.length = n := fun _ _ _ _ ⟨a, b, c, d, e, f, g, _, _, _, ha, _⟩ => ha.len.trans (h a b c d e f g)
theorem bodyP7 {α β γ δ ε ζ η : Type} {pre : α → β → γ → δ → ε → ζ → η → Prop} {P : α → β → γ → δ → ε → ζ → η → List Pr} {R : α → β → γ → δ → ε → ζ → η → Pr} {X : Cx} {bs : List Stmt} {ts : TS} {Nm : List Str} {vs : List V} {H : Hp} {Q : VK} {E : XK} (hd : PSs X.nox bs ts) (hs : ∀ a b c d e f g G M vs, pre a b c d e f g → Als G (P a b c d e f g) vs → Sm ts (start Nm vs) G M (OutR M (R a b c d e f g))) (hh : (SpP7 pre P R) vs H Q E) :
    ∃ t, PSs X bs t ∧ t { nx := fun _ H' => Q .non H', rt := Q } (start Nm vs) H := by
  obtain ⟨a, b, c, d, e, f, g, G, M, hp, ha, A, k⟩ := hh
  exact ⟨ts, hd.nox, hs a b c d e f g G M vs hp ha G H (Same.refl _) A _ (fin_ok k)⟩
theorem ec_P7 {α β γ δ ε ζ η : Type} {pre : α → β → γ → δ → ε → ζ → η → Prop} {P : α → β → γ → δ → ε → ζ → η → List Pr} {R : α → β → γ → δ → ε → ζ → η → Pr} {tr : TA} {σ : St} {G : Hp} {M N : Cells} {E : XK} {a : α} {b : β} {c : γ} {d : δ} {e : ε} {f : ζ} {g : η} (ha : EvA tr σ G M N (P a b c d e f g)) (hp : pre a b c d e f g) : Ev (tCall (SpP7 pre P R) [] E tr) σ G M N (R a b c d e f g) := fun G1 H q A Q k => ha G1 H q A _ fun vs G2 H2 e2 A2 hvs => by
  rw [List.append_nil]
  exact ⟨a, b, c, d, e, f, g, G2, N, hp, hvs, A2, fun v G3 H3 e3 A3 hv => k v G3 H3 (e2.trans e3) A3 hv⟩
theorem em_P7 {α β γ δ ε ζ η : Type} {pre : α → β → γ → δ → ε → ζ → η → Prop} {P : α → β → γ → δ → ε → ζ → η → List Pr} {R : α → β → γ → δ → ε → ζ → η → Pr} {tr : TA} {ta : TE} {σ : St} {G : Hp} {M M1 N : Cells} {E : XK} {C : Addr} {m : Str} {φ : Pr} {ps : List Pr} {a : α} {b : β} {c : γ} {d : δ} {e : ε} {f : ζ} {g : η} (ho : Ev ta σ G M M1 φ) (hi : ∀ v G', φ.h v G' → ∃ a dx fs, v = .ref a ∧ G' a = some (.ins C dx fs) ∧ fs.lookup m = none) (ha : EvA tr σ G M1 N ps) (hP : φ :: ps = P a b c d e f g) (hp : pre a b c d e f g) :
    Ev (tMeth C m (SpP7 pre P R) [] E ta tr) σ G M N (R a b c d e f g) := fun G1 H q A Q k => ho G1 H q A _ fun v G2 H2 e2 A2 hv => by
  obtain ⟨o, dx, fs, h1, h2, h3⟩ := hi v G2 hv
  refine ⟨o, dx, fs, h1, A2.g _ _ h2, h3, ha G2 H2 (q.trans e2) A2 _ fun vs G3 H3 e3 A3 hvs => ?_⟩
  rw [List.append_nil]
  exact ⟨a, b, c, d, e, f, g, G3, N, hp, by rw [← hP]; exact ⟨φ.m e3 hv, hvs⟩, A3, fun v G4 H4 e4 A4 hv => k v G4 H4 ((e2.trans e3).trans e4) A4 hv⟩
def SpN7 {α β γ δ ε ζ η : Type} (pre : α → β → γ → δ → ε → ζ → η → Prop) (P : α → β → γ → δ → ε → ζ → η → List Pr) (R : α → β → γ → δ → ε → ζ → η → List Pr) : Sp := fun vs H Q _ => ∃ (a : α) (b : β) (c : γ) (d : δ) (e : ε) (f : ζ) (g : η) (G : Hp) (M : Cells), pre a b c d e f g ∧ Als G (P a b c d e f g) vs ∧ At G M H ∧ ∀ p G' H', Same G G' → At G' ((p, .lst (R a b c d e f g)) :: M) H' → Q (.ref p) H'
theorem lenN7 {α β γ δ ε ζ η : Type} {pre : α → β → γ → δ → ε → ζ → η → Prop} {P : α → β → γ → δ → ε → ζ → η → List Pr} {R : α → β → γ → δ → ε → ζ → η → List Pr} {n : Nat} (h : ∀ a b c d e f g, (P a b c d e f g).length = n) : ∀ vs H Q E, (SpN7 pre P R) vs H Q E → vs.length = n := fun _ _ _ _ ⟨a, b, c, d, e, f, g, _, _, _, ha, _⟩ => ha.len.trans (h a b c d e f g)
theorem bodyN7 {α β γ δ ε ζ η : Type} {pre : α → β → γ → δ → ε → ζ → η → Prop} {P : α → β → γ → δ → ε → ζ → η → List Pr} {R : α → β → γ → δ → ε → ζ → η → List Pr} {X : Cx} {bs : List Stmt} {ts : TS} {Nm : List Str} {vs : List V} {H : Hp} {Q : VK} {E : XK} (hd : PSs X.nox bs ts) (hs : ∀ a b c d e f g G M vs, pre a b c d e f g → Als G (P a b c d e f g) vs → Sm ts (start Nm vs) G M (OutO M (R a b c d e f g))) (hh : (SpN7 pre P R) vs H Q E) :
    ∃ t, PSs X bs t ∧ t { nx := fun _ H' => Q .non H', rt := Q } (start Nm vs) H := by
  obtain ⟨a, b, c, d, e, f, g, G, M, hp, ha, A, k⟩ := hh
  exact ⟨ts, hd.nox, hs a b c d e f g G M vs hp ha G H (Same.refl _) A _ (finO_ok k)⟩
theorem ec_N7 {α β γ δ ε ζ η : Type} {pre : α → β → γ → δ → ε → ζ → η → Prop} {P : α → β → γ → δ → ε → ζ → η → List Pr} {R : α → β → γ → δ → ε → ζ → η → List Pr} {tr : TA} {σ : St} {G : Hp} {M N : Cells} {E : XK} {a : α} {b : β} {c : γ} {d : δ} {e : ε} {f : ζ} {g : η} (ha : EvA tr σ G M N (P a b c d e f g)) (hp : pre a b c d e f g) : EvO (tCall (SpN7 pre P R) [] E tr) σ G M N (R a b c d e f g) := fun G1 H q A Q k => ha G1 H q A _ fun vs G2 H2 e2 A2 hvs => by
  rw [List.append_nil]
  exact ⟨a, b, c, d, e, f, g, G2, N, hp, hvs, A2, fun p G3 H3 e3 A3 => k p G3 H3 (e2.trans e3) A3⟩
theorem em_N7 {α β γ δ ε ζ η : Type} {pre : α → β → γ → δ → ε → ζ → η → Prop} {P : α → β → γ → δ → ε → ζ → η → List Pr} {R : α → β → γ → δ → ε → ζ → η → List Pr} {tr : TA} {ta : TE} {σ : St} {G : Hp} {M M1 N : Cells} {E : XK} {C : Addr} {m : Str} {φ : Pr} {ps : List Pr} {a : α} {b : β} {c : γ} {d : δ} {e : ε} {f : ζ} {g : η} (ho : Ev ta σ G M M1 φ) (hi : ∀ v G', φ.h v G' → ∃ a dx fs, v = .ref a ∧ G' a = some (.ins C dx fs) ∧ fs.lookup m = none) (ha : EvA tr σ G M1 N ps) (hP : φ :: ps = P a b c d e f g) (hp : pre a b c d e f g) :
    EvO (tMeth C m (SpN7 pre P R) [] E ta tr) σ G M N (R a b c d e f g) := fun G1 H q A Q k => ho G1 H q A _ fun v G2 H2 e2 A2 hv => by
  obtain ⟨o, dx, fs, h1, h2, h3⟩ := hi v G2 hv
  refine ⟨o, dx, fs, h1, A2.g _ _ h2, h3, ha G2 H2 (q.trans e2) A2 _ fun vs G3 H3 e3 A3 hvs => ?_⟩
  rw [List.append_nil]
  exact ⟨a, b, c, d, e, f, g, G3, N, hp, by rw [← hP]; exact ⟨φ.m e3 hv, hvs⟩, A3, fun p G4 H4 e4 A4 => k p G4 H4 ((e2.trans e3).trans e4) A4⟩
end Sg
namespace Sg
open PySem PySem.Spec L2
section
variable {K : PySem.W.Frag} {σ : L2.St} {G G0 : Hp} {M M1 M2 M3 N : Cells} {φ ψ : Pr} {ps qs : List Pr} {ta tb te tx tl : TE} {t u tt : TT} {x y z : V} {i : Nat} {O : Out} {tu tw tz : TS} {g : TG} {tr : TA} {vs : List Nat}
theorem q_for (I : Nat → L2.St → Hp → Cells → Prop) (h : Ev tl σ G M M1 (pL ps)) (h0 : ∀ G1, Same G G1 → I 0 σ G1 M1)
    (hs : ∀ j p σ' G' M', Same G G' → ps[j]? = some p → I j σ' G' M' → Ag g p σ' G' fun σ2 => Sm tu σ2 G' M' { nx := I (j + 1), rt := O.rt, bk := fun σ3 G3 M3 => Sm tz σ3 G3 M3 O, ct := I (j + 1) })
    (hd : ∀ σ' G' M', Same G G' → I ps.length σ' G' M' → Sm tz σ' G' M' O) : Sm (tSeq (tFor (iList K tl) g tu) tz) σ G M O := Sm.seq (s_for I h h0 hs hd)
/-- for i in range(n) | range(lo, hi) -/
theorem for_rg {lo : Int} {n : Nat} {D : Ends} {H2 : Hp} {G2 : Hp} (I : Nat → L2.St → Hp → Cells → Prop) (e2 : Same G G2) (A2 : At G2 M1 H2) (d : Dok O G2 D) (h0 : I 0 σ G2 M1)
    (hs : ∀ (j : Nat) σ' G' M', Same G G' → j < n → I j σ' G' M' → Ag g (pI (lo + j)) σ' G' fun σ2 => Sm tu σ2 G' M' { nx := I (j + 1), rt := O.rt, bk := O.nx, ct := I (j + 1) })
    (hd : ∀ σ' G' M', Same G G' → I n σ' G' M' → O.nx σ' G' M') :
    ∃ W : Nat → Nat → L2.St → Hp → Prop, (∃ m, W 0 m σ H2) ∧ ∀ i m σ H, W i m σ H →
      ((Itr lo n).stop i H ∧ D.nx σ H) ∨ ((Itr lo n).go i H ∧ ∃ N : L2.St → Hp → Prop, (∀ σ' H', N σ' H' → ∃ m', m' < m ∧ W (i + 1) m' σ' H') ∧ ∀ x H', (Itr lo n).yld i H x H' → g x σ H' fun σ2 H2 => tu { D with nx := N, ct := N, bk := D.nx } σ2 H2) := by
  refine for_range (lo := lo) (n := n) (fun j σ' H' => ∃ G' M', Same G2 G' ∧ At G' M' H' ∧ I j σ' G' M') ⟨G2, M1, Same.refl _, A2, h0⟩ ?_ ?_
  · rintro j σ' H' hj ⟨G', M', e', A', hI⟩
    refine hs j σ' G' M' (e2.trans e') hj hI _ H' A'.g rfl _ fun σ2 s => s G' H' (Same.refl _) A' _ ?_
    exact ⟨fun σ3 G3 M3 H3 e3 A3 r => ⟨G3, M3, e'.trans e3, A3, r⟩, fun v G3 M3 H3 e3 A3 r => d.rt v G3 M3 H3 (e'.trans e3) A3 r, fun σ3 G3 M3 H3 e3 A3 r => d.nx σ3 G3 M3 H3 (e'.trans e3) A3 r,
      fun σ3 G3 M3 H3 e3 A3 r => ⟨G3, M3, e'.trans e3, A3, r⟩⟩
  · rintro σ' H' ⟨G', M', e', A', hI⟩
    exact d.nx σ' G' M' H' e' A' (hd σ' G' M' (e2.trans e') hI)
theorem s_forR1 (I : Nat → L2.St → Hp → Cells → Prop) {n : Int} (h : Ev ta σ G M M1 (pI n)) (hn : -(2 ^ 62) ≤ n ∧ n < 2 ^ 62) (h0 : ∀ G1, Same G G1 → I 0 σ G1 M1)
    (hs : ∀ (j : Nat) σ' G' M', Same G G' → j < n.toNat → I j σ' G' M' → Ag g (pI j) σ' G' fun σ2 => Sm tu σ2 G' M' { nx := I (j + 1), rt := O.rt, bk := O.nx, ct := I (j + 1) })
    (hd : ∀ σ' G' M', Same G G' → I n.toNat σ' G' M' → O.nx σ' G' M') : Sm (tFor (iRng1 (tCons ta tNil)) g tu) σ G M O := fun G1 H a A D d => h G1 H a A _ fun v G2 H2 e2 A2 hv => by
  cases (show v = .int n from hv)
  refine ⟨n, rfl, hn.1, hn.2, for_rg I (a.trans e2) A2 (d.m e2) (h0 G2 (a.trans e2)) (fun j σ' G' M' e hj hI => ?_) hd⟩
  rw [Int.zero_add]
  exact hs j σ' G' M' e hj hI
theorem s_forR2 (I : Nat → L2.St → Hp → Cells → Prop) {lo n : Int} (h : Ev ta σ G M M1 (pI lo)) (h' : Ev tb σ G M1 M2 (pI n)) (hn : -(2 ^ 62) ≤ lo ∧ lo < 2 ^ 62 ∧ -(2 ^ 62) ≤ n ∧ n < 2 ^ 62) (h0 : ∀ G1, Same G G1 → I 0 σ G1 M2)
    (hs : ∀ (j : Nat) σ' G' M', Same G G' → j < (n - lo).toNat → I j σ' G' M' → Ag g (pI (lo + j)) σ' G' fun σ2 => Sm tu σ2 G' M' { nx := I (j + 1), rt := O.rt, bk := O.nx, ct := I (j + 1) })
    (hd : ∀ σ' G' M', Same G G' → I (n - lo).toNat σ' G' M' → O.nx σ' G' M') : Sm (tFor (iRng2 (tCons ta (tCons tb tNil))) g tu) σ G M O := fun G1 H a A D d => h G1 H a A _ fun v G2 H2 e2 A2 hv => h' G2 H2 (a.trans e2) A2 _ fun w G3 H3 e3 A3 hw => by
  cases (show v = .int lo from hv); cases (show w = .int n from hw)
  exact ⟨lo, n, rfl, hn, for_rg I ((a.trans e2).trans e3) A3 (d.m (e2.trans e3)) (h0 G3 ((a.trans e2).trans e3)) hs hd⟩
theorem q_forR1 (I : Nat → L2.St → Hp → Cells → Prop) {n : Int} (h : Ev ta σ G M M1 (pI n)) (hn : -(2 ^ 62) ≤ n ∧ n < 2 ^ 62) (h0 : ∀ G1, Same G G1 → I 0 σ G1 M1)
    (hs : ∀ (j : Nat) σ' G' M', Same G G' → j < n.toNat → I j σ' G' M' → Ag g (pI j) σ' G' fun σ2 => Sm tu σ2 G' M' { nx := I (j + 1), rt := O.rt, bk := fun σ3 G3 M3 => Sm tz σ3 G3 M3 O, ct := I (j + 1) })
    (hd : ∀ σ' G' M', Same G G' → I n.toNat σ' G' M' → Sm tz σ' G' M' O) : Sm (tSeq (tFor (iRng1 (tCons ta tNil)) g tu) tz) σ G M O := Sm.seq (s_forR1 I h hn h0 hs hd)
theorem q_forR2 (I : Nat → L2.St → Hp → Cells → Prop) {lo n : Int} (h : Ev ta σ G M M1 (pI lo)) (h' : Ev tb σ G M1 M2 (pI n)) (hn : -(2 ^ 62) ≤ lo ∧ lo < 2 ^ 62 ∧ -(2 ^ 62) ≤ n ∧ n < 2 ^ 62) (h0 : ∀ G1, Same G G1 → I 0 σ G1 M2)
    (hs : ∀ (j : Nat) σ' G' M', Same G G' → j < (n - lo).toNat → I j σ' G' M' → Ag g (pI (lo + j)) σ' G' fun σ2 => Sm tu σ2 G' M' { nx := I (j + 1), rt := O.rt, bk := fun σ3 G3 M3 => Sm tz σ3 G3 M3 O, ct := I (j + 1) })
    (hd : ∀ σ' G' M', Same G G' → I (n - lo).toNat σ' G' M' → Sm tz σ' G' M' O) : Sm (tSeq (tFor (iRng2 (tCons ta (tCons tb tNil))) g tu) tz) σ G M O := Sm.seq (s_forR2 I h h' hn h0 hs hd)
/-- while -/
theorem s_while {tc : TT} (I : Nat → L2.St → Hp → Cells → Prop) (m0 : Nat) (h0 : ∀ G1, Same G G1 → I m0 σ G1 M)
    (hs : ∀ m σ' G' M', Same G G' → I m σ' G' M' → ∃ b M2, EvT tc σ' G' M' M2 b ∧ (b = true → Sm tu σ' G' M2 { nx := fun σ2 G2 M3 => ∃ m', m' < m ∧ I m' σ2 G2 M3, rt := O.rt, bk := O.nx, ct := fun σ2 G2 M3 => ∃ m', m' < m ∧ I m' σ2 G2 M3 }) ∧
      (b = false → ∀ G2, Same G' G2 → O.nx σ' G2 M2)) : Sm (tWhile tc tu) σ G M O := fun G1 H a A D d => by
  refine ⟨fun m σ' H' => ∃ G' M', Same G1 G' ∧ At G' M' H' ∧ I m σ' G' M', ⟨m0, G1, M, Same.refl _, A, h0 G1 a⟩, ?_⟩
  rintro m σ' H' ⟨G', M', e', A', hI⟩
  obtain ⟨b, M2, ht, h1, h2⟩ := hs m σ' G' M' (a.trans e') hI
  refine ht G' H' (Same.refl _) A' _ fun G2 H2 e2 A2 => ?_
  cases b with
  | true =>
    rw [if_pos rfl]
    refine ⟨fun σ3 H3 => ∃ m', m' < m ∧ ∃ G3 M3, Same G1 G3 ∧ At G3 M3 H3 ∧ I m' σ3 G3 M3, fun _ _ h => h, h1 rfl G2 H2 e2 A2 _ ?_⟩
    exact ⟨fun σ3 G3 M3 H3 e3 A3 ⟨m', hm, r⟩ => ⟨m', hm, G3, M3, (e'.trans e2).trans e3, A3, r⟩, fun v G3 M3 H3 e3 A3 r => d.rt v G3 M3 H3 ((e'.trans e2).trans e3) A3 r, fun σ3 G3 M3 H3 e3 A3 r => d.nx σ3 G3 M3 H3 ((e'.trans e2).trans e3) A3 r,
      fun σ3 G3 M3 H3 e3 A3 ⟨m', hm, r⟩ => ⟨m', hm, G3, M3, (e'.trans e2).trans e3, A3, r⟩⟩
  | false =>
    rw [if_neg Bool.false_ne_true]
    exact d.nx σ' G2 M2 H2 (e'.trans e2) A2 (h2 rfl G2 e2)
theorem q_while {tc : TT} (I : Nat → L2.St → Hp → Cells → Prop) (m0 : Nat) (h0 : ∀ G1, Same G G1 → I m0 σ G1 M)
    (hs : ∀ m σ' G' M', Same G G' → I m σ' G' M' → ∃ b M2, EvT tc σ' G' M' M2 b ∧ (b = true → Sm tu σ' G' M2 { nx := fun σ2 G2 M3 => ∃ m', m' < m ∧ I m' σ2 G2 M3, rt := O.rt, bk := fun σ3 G3 M3 => Sm tz σ3 G3 M3 O, ct := fun σ2 G2 M3 => ∃ m', m' < m ∧ I m' σ2 G2 M3 }) ∧
      (b = false → Sm tz σ' G' M2 O)) : Sm (tSeq (tWhile tc tu) tz) σ G M O := Sm.seq (s_while I m0 h0 fun m σ' G' M' e hI => by
  obtain ⟨b, M2, h1, h2, h3⟩ := hs m σ' G' M' e hI
  exact ⟨b, M2, h1, h2, fun hb G2 e2 => (h3 hb).mono e2⟩)

/-! ### comprehensions -/
/-- the list so far, over the cells C i at turn i -/
def Lc (G : Hp) (C : Nat → Cells) (acc : Nat → List Pr) (Dl : Addr) (i : Nat) (H' : Hp) : Prop := ∃ G', Same G G' ∧ At G' ((Dl, .lst (acc i)) :: C i) H'
/-- [e for x in xs if t] of any cells: C by the turn -/
theorem eo_lcC (C : Nat → Cells) (f : Nat → Bool) (gm : Nat → Pr) (acc : Nat → List Pr) (hacc0 : acc 0 = []) (haccT : ∀ j, f j = true → acc (j + 1) = acc j ++ [gm j]) (haccF : ∀ j, f j = false → acc (j + 1) = acc j) (hal : ∀ j, j ≤ ps.length → (acc j).length < 100000)
    (h : Ev tl σ G M (C 0) (pL ps))
    (hs : ∀ j p G', Same G G' → ps[j]? = some p → Ag g p (wipe σ vs) G' fun σ2 => wipe σ2 vs = wipe σ vs ∧ ∀ Dl c, ∃ C', EvT tt σ2 G' ((Dl, c) :: C j) ((Dl, c) :: C') (f j) ∧ (f j = true → Ev te σ2 G' ((Dl, c) :: C') ((Dl, c) :: C (j + 1)) (gm j)) ∧ (f j = false → C' = C (j + 1))) :
    EvO (tLc (iList K tl) g tt te vs) σ G M (C ps.length) (acc ps.length) := fun G1 H a A Q k => h G1 H a A _ fun v G2 H2 e2 A2 ⟨l, us, hv, hq, hal2⟩ => by
  refine ⟨l, hv, ⟨us, SqL.of (A2.g _ _ hq)⟩, fun Dl hD => ?_⟩
  have A3 : At G2 ((Dl, .lst (acc 0)) :: C 0) (upd H2 Dl (.lst [])) := by rw [hacc0]; exact A2.newL hD (Als.nil)
  refine lc_list (K := K) (a := l) (xs := us) (Lc G2 C acc Dl) ⟨G2, Same.refl _, A3⟩ (fun j H' _ ⟨G', e', A'⟩ => SqL.of (e'.trans A'.g _ _ hq)) ?_ ?_
  · rintro j x H' hx ⟨G', e', A'⟩
    have hjl : j < ps.length := by rw [← hal2.len]; exact (List.getElem?_eq_some_iff.mp hx).1
    obtain ⟨p, hp, hpx⟩ := hal2.getV hx
    refine hs j p G' ((a.trans e2).trans e') hp x H' A'.g (p.m e' hpx) _ fun σ2 ⟨hw, s⟩ => ⟨hw, ?_⟩
    obtain ⟨C', h1, h2, h3⟩ := s Dl (.lst (acc j))
    refine h1 G' H' (Same.refl _) A' _ fun G3 H3 e3 A3 => ?_
    cases hf : f j with
    | true =>
      rw [if_pos rfl]
      refine h2 hf G3 H3 e3 A3 _ fun w G4 H4 e4 A4 hw2 => ?_
      obtain ⟨ws, hws, hal4⟩ := A4.head
      refine ⟨ws, hws, by rw [hal4.len]; exact Nat.lt_of_lt_of_le (hal j (Nat.le_of_lt hjl)) (by decide), G4, (e'.trans e3).trans e4, ?_⟩
      rw [haccT j hf]
      exact A4.putL (hal4.app (qs := [gm j]) (ws := [w]) (Als.cons hw2 Als.nil))
    | false =>
      rw [if_neg Bool.false_ne_true]
      refine ⟨G3, e'.trans e3, ?_⟩
      rw [haccF j hf, ← h3 hf]
      exact A3
  · rintro H' ⟨G', e', A'⟩
    rw [hal2.len] at A'
    exact k Dl G' H' (e2.trans e') A'
def sel {α β : Type} (f : α → Bool) (gm : α → β) (xs : List α) : List β := (xs.filter f).map gm
theorem sel_T {α β : Type} {f : α → Bool} {gm : α → β} {xs : List α} {j : Nat} {a : α} (h : xs[j]? = some a) (hf : f a = true) : sel f gm (xs.take (j + 1)) = sel f gm (xs.take j) ++ [gm a] := by
  unfold sel
  rw [List.take_add_one, h, List.filter_append, List.map_append]
  simp [hf]
theorem sel_F {α β : Type} {f : α → Bool} {gm : α → β} {xs : List α} {j : Nat} {a : α} (h : xs[j]? = some a) (hf : f a = false) : sel f gm (xs.take (j + 1)) = sel f gm (xs.take j) := by
  unfold sel
  rw [List.take_add_one, h, List.filter_append, List.map_append]
  simp [hf]
theorem sel_len {α β : Type} (f : α → Bool) (gm : α → β) (xs : List α) (j : Nat) : (sel f gm (xs.take j)).length ≤ xs.length := by
  unfold sel
  rw [List.length_map]
  exact Nat.le_trans (List.length_filter_le _ _) (by rw [List.length_take]; exact Nat.min_le_right _ _)
/-- the plain one: items by a function, nothing owned changes -/
theorem eo_lc {α : Type} {F : α → Pr} (xs : List α) (f : α → Bool) (gm : α → Pr) (h : Ev tl σ G M M1 (pL (xs.map F))) (hl : xs.length < 100000)
    (hs : ∀ (j : Nat) x G', Same G G' → xs[j]? = some x → Ag g (F x) (wipe σ vs) G' fun σ2 => wipe σ2 vs = wipe σ vs ∧ ∀ Dl c, EvT tt σ2 G' ((Dl, c) :: M1) ((Dl, c) :: M1) (f x) ∧ (f x = true → Ev te σ2 G' ((Dl, c) :: M1) ((Dl, c) :: M1) (gm x))) :
    EvO (tLc (iList K tl) g tt te vs) σ G M M1 (sel f gm xs) := by
  have q := eo_lcC (K := K) (g := g) (tt := tt) (te := te) (vs := vs) (ps := xs.map F) (fun _ => M1) (fun j => match xs[j]? with | some x => f x | none => false) (fun j => match xs[j]? with | some x => gm x | none => pN) (fun j => sel f gm (xs.take j)) rfl
    (fun j hf => by
      cases e : xs[j]? with
      | none => rw [e] at hf; cases hf
      | some a =>
        rw [e] at hf
        exact sel_T e hf) (fun j hf => by
      cases e : xs[j]? with
      | none =>
        have : xs.length ≤ j := List.getElem?_eq_none_iff.mp e
        rw [List.take_of_length_le this, List.take_of_length_le (Nat.le_succ_of_le this)]
      | some a =>
        rw [e] at hf
        exact sel_F e hf) (fun j _ => Nat.lt_of_le_of_lt (sel_len f gm xs j) hl) h ?_
  · rw [List.length_map, List.take_length] at q
    exact q
  · intro j p G' e hp
    rw [List.getElem?_map] at hp
    cases e1 : xs[j]? with
    | none => rw [e1] at hp; cases hp
    | some a =>
      rw [e1] at hp
      cases (show F a = p from Option.some.inj hp)
      intro v H' eh hv Q k
      refine hs j a G' e e1 v H' eh hv Q fun σ2 ⟨hw, s⟩ => k σ2 ⟨hw, fun Dl c => ⟨M1, ?_, ?_, fun _ => rfl⟩⟩
      · have := (s Dl c).1
        simp only [e1]
        exact this
      · intro hf
        simp only [e1] at hf ⊢
        exact (s Dl c).2 hf
/-- no test -/
theorem et_yes : EvT tYes σ G M M true := fun G1 H a A Q k => k G1 H (Same.refl _) A
theorem sel_all {α β : Type} {gm : α → β} {xs : List α} : sel (fun _ => true) gm xs = xs.map gm := by unfold sel; rw [List.filter_eq_self.mpr (fun _ _ => rfl)]
theorem eo_lcA {α : Type} {F : α → Pr} (xs : List α) (gm : α → Pr) (h : Ev tl σ G M M1 (pL (xs.map F))) (hl : xs.length < 100000)
    (hs : ∀ (j : Nat) x G', Same G G' → xs[j]? = some x → Ag g (F x) (wipe σ vs) G' fun σ2 => wipe σ2 vs = wipe σ vs ∧ ∀ Dl c, Ev te σ2 G' ((Dl, c) :: M1) ((Dl, c) :: M1) (gm x)) :
    EvO (tLc (iList K tl) g tYes te vs) σ G M M1 (xs.map gm) := by
  have q := eo_lc (K := K) (g := g) (tt := tYes) (te := te) (vs := vs) xs (fun _ => true) gm h hl fun j x G' e hx v H eh hv Q k => hs j x G' e hx v H eh hv Q fun σ2 ⟨hw, s⟩ => k σ2 ⟨hw, fun Dl c => ⟨et_yes, fun _ => s Dl c⟩⟩
  rw [sel_all] at q
  exact q
/-- over range(n), the cells by the turn -/
theorem eo_lcR (C : Nat → Cells) (gm : Nat → Pr) {n : Int} (h : Ev ta σ G M (C 0) (pI n)) (hn : n < 100000)
    (hs : ∀ (j : Nat) G', Same G G' → j < n.toNat → Ag g (pI j) (wipe σ vs) G' fun σ2 => wipe σ2 vs = wipe σ vs ∧ ∀ Dl c, Ev te σ2 G' ((Dl, c) :: C j) ((Dl, c) :: C (j + 1)) (gm j)) (hlo : -100000 ≤ n := by omega) :
    EvO (tLc (iRng1 (tCons ta tNil)) g tYes te vs) σ G M (C n.toNat) ((List.range n.toNat).map gm) := fun G1 H a A Q k => h G1 H a A _ fun v G2 H2 e2 A2 hv => by
  cases (show v = .int n from hv)
  refine ⟨n, rfl, by omega, by omega, fun Dl hD => ?_⟩
  refine lc_range (lo := 0) (n := n.toNat) (Lc G2 C (fun j => (List.range j).map gm) Dl) ⟨G2, Same.refl _, A2.newL hD Als.nil⟩ ?_ ?_
  · rintro j H' hj ⟨G', e', A'⟩
    rw [Int.zero_add]
    refine hs j G' ((a.trans e2).trans e') hj _ H' A'.g rfl _ fun σ2 ⟨hw, s⟩ => ⟨hw, ?_⟩
    refine et_yes (σ := σ2) (G := G') G' H' (Same.refl _) A' _ fun G3 H3 e3 A3 => ?_
    rw [if_pos rfl]
    refine s Dl _ G3 H3 e3 A3 _ fun w G4 H4 e4 A4 hw2 => ?_
    obtain ⟨ws, hws, hal4⟩ := A4.head
    refine ⟨ws, hws, by rw [hal4.len, List.length_map, List.length_range]; exact Nat.lt_of_lt_of_le (show j < 100000 by omega) (by decide), G4, (e'.trans e3).trans e4, ?_⟩
    show At G4 ((Dl, .lst ((List.range (j + 1)).map gm)) :: C (j + 1)) _
    rw [List.range_succ, List.map_append]
    exact A4.putL (hal4.app (qs := [gm j]) (ws := [w]) (Als.cons hw2 Als.nil))
  · rintro H' ⟨G', e', A'⟩
    exact k Dl G' H' (e2.trans e') A'

/-! ### built-ins -/
abbrev rcLen (K : PySem.W.Frag) : List V → Hp → VK → Prop := fun xs H Q => ∃ x n, xs = [x] ∧ LenV K x H n ∧ Q (.int n) H
theorem ev_lenL (h : Ev ta σ G M M1 (pL ps)) : Ev (tCB (rcLen K) (tCons ta tNil)) σ G M M1 (pI ps.length) := ev_cb1 h fun v G' H _ A ⟨a, vs, hv, hq, hal⟩ Q k => by
  subst hv
  exact ⟨_, vs.length, rfl, .inl ⟨vs, SqL.of (A.g _ _ hq), rfl⟩, by rw [hal.len]; exact k _ G' H (Same.refl _) A rfl⟩
theorem ev_lenQ (h : Ev ta σ G M M1 (pQ K ps)) : Ev (tCB (rcLen K) (tCons ta tNil)) σ G M M1 (pI ps.length) := ev_cb1 h fun v G' H _ A ⟨a, vs, hv, hq, hal⟩ Q k => by
  subst hv
  exact ⟨_, vs.length, rfl, .inl ⟨vs, same_sq A.g hq, rfl⟩, by rw [hal.len]; exact k _ G' H (Same.refl _) A rfl⟩
theorem ev_lenT (h : Ev ta σ G M M1 (pT K ps)) : Ev (tCB (rcLen K) (tCons ta tNil)) σ G M M1 (pI ps.length) := ev_cb1 h fun v G' H _ A ⟨a, vs, hv, hq, hal⟩ Q k => by
  subst hv
  exact ⟨_, vs.length, rfl, .inr ⟨vs, same_sqT A.g hq, rfl⟩, by rw [hal.len]; exact k _ G' H (Same.refl _) A rfl⟩
theorem ev_lenM {p : Addr} (h : Ev ta σ G M M1 (pV (.ref p))) (hm : (p, CD.lst ps) ∈ M1) : Ev (tCB (rcLen K) (tCons ta tNil)) σ G M M1 (pI ps.length) := ev_cb1 h fun v G' H _ A hv Q k => by
  cases (show v = .ref p from hv)
  obtain ⟨vs, h1, hal⟩ := A.lst hm
  exact ⟨_, vs.length, rfl, .inl ⟨vs, SqL.of h1, rfl⟩, by rw [hal.len]; exact k _ G' H (Same.refl _) A rfl⟩
theorem ev_lenS {s : Str} (h : Ev ta σ G M M1 (pS s)) (hz : s.length ≤ sizeLine) : Ev (tCB (rcLen K) (tCons ta tNil)) σ G M M1 (pI s.length) := ev_cbV h fun Q H q => ⟨.str s, s.length, rfl, ⟨hz, rfl⟩, q⟩
theorem ev_min2 {m n : Int} (ha : Ev ta σ G M M1 (pI m)) (hb : Ev tb σ G M1 M2 (pI n)) : Ev (tCB (fun xs H Q => ∃ i j, xs = [.int i, .int j] ∧ Q (.int (if j < i then j else i)) H) (tCons ta (tCons tb tNil))) σ G M M2 (pI (if n < m then n else m)) := ev_cbV2 ha hb fun Q H q => ⟨m, n, rfl, q⟩
theorem ev_max2 {m n : Int} (ha : Ev ta σ G M M1 (pI m)) (hb : Ev tb σ G M1 M2 (pI n)) : Ev (tCB (fun xs H Q => ∃ i j, xs = [.int i, .int j] ∧ Q (.int (if j > i then j else i)) H) (tCons ta (tCons tb tNil))) σ G M M2 (pI (if n > m then n else m)) := ev_cbV2 ha hb fun Q H q => ⟨m, n, rfl, q⟩
abbrev rcInt : List V → Hp → VK → Prop := fun xs H Q => (∃ i, xs = [.int i] ∧ Q (.int i) H) ∨ ∃ k, xs = [.bl k] ∧ Q (.int (if k then 1 else 0)) H
theorem ev_intI {n : Int} (h : Ev ta σ G M M1 (pI n)) : Ev (tCB rcInt (tCons ta tNil)) σ G M M1 (pI n) := ev_cbV h fun Q H q => .inl ⟨n, rfl, q⟩
theorem ev_intB {b : Bool} (h : Ev ta σ G M M1 (pB b)) : Ev (tCB rcInt (tCons ta tNil)) σ G M M1 (pI (if b then 1 else 0)) := ev_cbV h fun Q H q => .inr ⟨b, rfl, q⟩
theorem ev_intS {s : Str} {n : Int} (h : Ev ta σ G M M1 (pS s)) (hn : PySem.intText? s = some n) (hz : s.length ≤ 640) : Ev (tCB (fun xs H Q => ∃ a n, xs = [.str a] ∧ PySem.intText? a = some n ∧ a.length ≤ 640 ∧ Q (.int n) H) (tCons ta tNil)) σ G M M1 (pI n) := ev_cbV h fun Q H q => ⟨s, n, rfl, hn, hz, q⟩
theorem ev_strI {n : Int} (h : Ev ta σ G M M1 (pI n)) (hz : n.natAbs.log2 < 1920) : Ev (tCB (fun xs H Q => ∃ i, xs = [.int i] ∧ i.natAbs.log2 < 1920 ∧ Q (.str (toString i)) H) (tCons ta tNil)) σ G M M1 (pS (toString n)) := ev_cbV h fun Q H q => ⟨n, rfl, hz, q⟩
abbrev rcList (K : PySem.W.Frag) : List V → Hp → VK → Prop := fun xs H Q => ∃ p ys, xs = [.ref p] ∧ (SqL K H p ys ∨ SqT K H p ys) ∧ ∀ l, H l = none → Q (.ref l) (upd H l (.lst ys))
theorem eo_cb1 {rc : List V → Hp → VK → Prop} (ha : Ev ta σ G M M1 φ) (hr : ∀ v G' H, Same G G' → At G' M1 H → φ.h v G' → ∀ Q : VK, (∀ p G2 H2, Same G' G2 → At G2 ((p, .lst ps) :: M2) H2 → Q (.ref p) H2) → rc [v] H Q) : EvO (tCB rc (tCons ta tNil)) σ G M M2 ps := fun G1 H a A Q k =>
  ha G1 H a A _ fun v G2 H2 e2 A2 hv => hr v G2 H2 (a.trans e2) A2 hv Q fun p G3 H3 e3 => k p G3 H3 (e2.trans e3)
theorem eo_listL (h : Ev ta σ G M M1 (pL ps)) : EvO (tCB (rcList K) (tCons ta tNil)) σ G M M1 ps := eo_cb1 h fun v G' H _ A ⟨a, vs, hv, hq, hal⟩ Q k => by
  subst hv
  exact ⟨a, vs, rfl, .inl (SqL.of (A.g _ _ hq)), fun l hl => k l G' _ (Same.refl _) (A.newL hl hal)⟩
theorem eo_listM {p : Addr} (h : Ev ta σ G M M1 (pV (.ref p))) (hm : (p, CD.lst ps) ∈ M1) : EvO (tCB (rcList K) (tCons ta tNil)) σ G M M1 ps := eo_cb1 h fun v G' H _ A hv Q k => by
  cases (show v = .ref p from hv)
  obtain ⟨vs, h1, hal⟩ := A.lst hm
  exact ⟨p, vs, rfl, .inl (SqL.of h1), fun l hl => k l G' _ (Same.refl _) (A.newL hl hal)⟩
/-- tuple(xs) -/
theorem ev_tupleL (h : Ev ta σ G M M1 (pL ps)) : Ev (tCB (fun xs H Q => ∃ p ys, xs = [.ref p] ∧ ((SqL K H p ys ∧ ∀ l, H l = none → Q (.ref l) (upd H l (.tup ys))) ∨ (SqT K H p ys ∧ Q (.ref p) H))) (tCons ta tNil)) σ G M M1 (pT K ps) := ev_cb1 h fun v G' H _ A ⟨a, vs, hv, hq, hal⟩ Q k => by
  subst hv
  refine ⟨a, vs, rfl, .inl ⟨SqL.of (A.g _ _ hq), fun l hl => ?_⟩⟩
  obtain ⟨e2, A2⟩ := A.newG (.tup vs) hl
  exact k (.ref l) _ _ e2 A2 ⟨l, vs, rfl, SqT.of upd_same, hal.m e2⟩
/-- all(xs), any(xs), sum(xs) of a new list -/
theorem ev_all {bs : List Bool} (h : Ev ta σ G M M1 (pL (bs.map pB))) : Ev (tCB (rAll K) (tCons ta tNil)) σ G M M1 (pB (bs.all id)) := ev_cb1 h fun v G' H _ A ⟨a, vs, hv, hq, hal⟩ Q k => by
  subst hv
  have e := Als.vals (f := V.bl) hal
  subst e
  exact ⟨a, bs, rfl, SqL.of (A.g _ _ hq), k _ G' H (Same.refl _) A rfl⟩
theorem ev_any {bs : List Bool} (h : Ev ta σ G M M1 (pL (bs.map pB))) : Ev (tCB (rAny K) (tCons ta tNil)) σ G M M1 (pB (bs.any id)) := ev_cb1 h fun v G' H _ A ⟨a, vs, hv, hq, hal⟩ Q k => by
  subst hv
  have e := Als.vals (f := V.bl) hal
  subst e
  exact ⟨a, bs, rfl, SqL.of (A.g _ _ hq), k _ G' H (Same.refl _) A rfl⟩
theorem ev_sum {ns : List Int} (h : Ev ta σ G M M1 (pL (ns.map pI))) : Ev (tCB (rSum K) (tCons ta tNil)) σ G M M1 (pI ns.sum) := ev_cb1 h fun v G' H _ A ⟨a, vs, hv, hq, hal⟩ Q k => by
  subst hv
  have e := Als.vals (f := V.int) hal
  subst e
  exact ⟨a, ns, rfl, SqL.of (A.g _ _ hq), k _ G' H (Same.refl _) A rfl⟩
/-! slices -/
theorem eb_some {n : Int} (h : Ev ta σ G M M1 (pI n)) : EvB (fun σ H Q => ta σ H fun x H1 => ∃ i, x = .int i ∧ Q (some i) H1) σ G M M1 (some n) := fun G1 H a A Q k => h G1 H a A _ fun v G2 H2 e2 A2 hv => ⟨n, hv, k G2 H2 e2 A2⟩
theorem eb_none : EvB (fun _ H Q => Q none H) σ G M M none := fun G1 H a A Q k => k G1 H (Same.refl _) A
def cutP (ps : List Pr) (lo hi : Option Int) : List Pr := (ps.drop (HT.sIx ps.length 0 lo)).take (HT.sIx ps.length ps.length hi - HT.sIx ps.length 0 lo)
theorem als_cut {vs : List V} (h : Als G ps vs) (lo hi : Option Int) : Als G (cutP ps lo hi) (cutV vs lo hi) := by
  unfold cutP cutV
  rw [h.len]
  exact (h.drop _).take _
theorem eo_slL {tlo thi : TO} {lo hi : Option Int} (h : Ev ta σ G M M1 (pL ps)) (hl : EvB tlo σ G M1 M2 lo) (hh : EvB thi σ G M2 M3 hi) : EvO (tSl (rSlL K) ta tlo thi) σ G M M3 (cutP ps lo hi) := fun G1 H a A Q k => h G1 H a A _ fun v G2 H2 e2 A2 ⟨l, vs, hv, hq, hal⟩ =>
  hl G2 H2 (a.trans e2) A2 _ fun G3 H3 e3 A3 => hh G3 H3 ((a.trans e2).trans e3) A3 _ fun G4 H4 e4 A4 => by
    subst hv
    exact ⟨l, vs, rfl, SqL.of (A4.g _ _ ((e3.trans e4) _ _ hq)), fun p hp => k p G4 _ ((e2.trans e3).trans e4) (A4.newL hp (als_cut (hal.m (e3.trans e4)) lo hi))⟩
theorem eo_slQ {tlo thi : TO} {lo hi : Option Int} (h : Ev ta σ G M M1 (pQ K ps)) (hl : EvB tlo σ G M1 M2 lo) (hh : EvB thi σ G M2 M3 hi) : EvO (tSl (rSlL K) ta tlo thi) σ G M M3 (cutP ps lo hi) := fun G1 H a A Q k => h G1 H a A _ fun v G2 H2 e2 A2 ⟨l, vs, hv, hq, hal⟩ =>
  hl G2 H2 (a.trans e2) A2 _ fun G3 H3 e3 A3 => hh G3 H3 ((a.trans e2).trans e3) A3 _ fun G4 H4 e4 A4 => by
    subst hv
    exact ⟨l, vs, rfl, same_sq ((e3.trans e4).trans A4.g) hq, fun p hp => k p G4 _ ((e2.trans e3).trans e4) (A4.newL hp (als_cut (hal.m (e3.trans e4)) lo hi))⟩
theorem ev_slS {tlo thi : TO} {lo hi : Option Int} {s : Str} (h : Ev ta σ G M M1 (pS s)) (hl : EvB tlo σ G M1 M2 lo) (hh : EvB thi σ G M2 M3 hi) (hz : s.length ≤ sizeLine) : Ev (tSl rSlS ta tlo thi) σ G M M3 (pS (cutS s lo hi)) := fun G1 H a A Q k => h G1 H a A _ fun v G2 H2 e2 A2 hv =>
  hl G2 H2 (a.trans e2) A2 _ fun G3 H3 e3 A3 => hh G3 H3 ((a.trans e2).trans e3) A3 _ fun G4 H4 e4 A4 => ⟨s, hv, hz, k _ G4 H4 ((e2.trans e3).trans e4) A4 rfl⟩
/-! lists put together, xs + ys -/
theorem eo_cat (ha : Ev ta σ G M M1 (pL ps)) (hb : Ev tb σ G M1 M2 (pL qs)) (hz : ps.length + qs.length ≤ 100000) : EvO (tOp rCat ta tb) σ G M M2 (ps ++ qs) := fun G1 H a A Q k => ha G1 H a A _ fun v G2 H2 e2 A2 ⟨l, vs, hv, hq, hal⟩ => hb G2 H2 (a.trans e2) A2 _ fun w G3 H3 e3 A3 ⟨l2, ws, hw, hq2, hal2⟩ => by
  subst hv hw
  exact ⟨l, l2, vs, ws, rfl, rfl, A3.g _ _ (e3 _ _ hq), A3.g _ _ hq2, by rw [hal.len, hal2.len]; exact small_sz hz, fun p hp => k p G3 _ (e2.trans e3) (A3.newL hp ((hal.m e3).app hal2))⟩
/-! texts -/
theorem ev_addS {s w : Str} (ha : Ev ta σ G M M1 (pS s)) (hb : Ev tb σ G M1 M2 (pS w)) (hz : s.length + w.length ≤ sizeLine) : Ev (tOp (fun x y H Q => ∃ i j, x = .str i ∧ y = .str j ∧ i.length + j.length ≤ sizeLine ∧ Q (.str (i ++ j)) H) ta tb) σ G M M2 (pS (s ++ w)) := ev_rv ha hb fun Q H q => ⟨s, w, rfl, rfl, hz, q⟩
abbrev rcJoin (K : PySem.W.Frag) : V → List V → Hp → VK → Prop := fun x xs H Q => ∃ a p, ∃ ys : List Str, x = .str a ∧ xs = [.ref p] ∧ (SqL K H p (ys.map V.str) ∨ SqT K H p (ys.map V.str)) ∧ (ys.map (·.length)).sum + ys.length * a.length ≤ 16777216 ∧ Q (.str (Txt.join a ys)) H
theorem ev_join {s : Str} {ys : List Str} (ha : Ev ta σ G M M1 (pS s)) (hb : Ev tb σ G M1 M2 (pL (ys.map pS))) (hz : (ys.map (·.length)).sum + ys.length * s.length ≤ 16777216) : Ev (tM1 (rcJoin K) ta tb) σ G M M2 (pS (Txt.join s ys)) := fun G1 H a A Q k => ha G1 H a A _ fun v G2 H2 e2 A2 hv => by
  cases (show v = .str s from hv)
  refine ⟨⟨s, rfl⟩, hb G2 H2 (a.trans e2) A2 _ fun w G3 H3 e3 A3 ⟨l, vs, hw, hq, hal⟩ => ?_⟩
  subst hw
  have e := Als.vals (f := V.str) hal
  subst e
  exact ⟨s, l, ys, rfl, rfl, .inl (SqL.of (A3.g _ _ hq)), hz, k _ G3 H3 (e2.trans e3) A3 rfl⟩
theorem eo_split {s sep : Str} (ha : Ev ta σ G M M1 (pS s)) (hb : Ev tb σ G M1 M2 (pS sep)) (h0 : (sep.length == 0) = false) (hz : s.length + 2 ≤ sizeLine) :
    EvO (tM1 (fun x xs H Q => ∃ a b, x = .str a ∧ xs = [.str b] ∧ (b.length == 0) = false ∧ a.length + 2 ≤ sizeLine ∧ rNewStrs (Txt.split a b) H Q) ta tb) σ G M M2 ((Txt.split s sep).map pS) := fun G1 H a A Q k => ha G1 H a A _ fun v G2 H2 e2 A2 hv => by
  cases (show v = .str s from hv)
  refine ⟨⟨s, rfl⟩, hb G2 H2 (a.trans e2) A2 _ fun w G3 H3 e3 A3 hw => ?_⟩
  cases (show w = .str sep from hw)
  exact ⟨s, sep, rfl, rfl, h0, hz, fun p hp => k p G3 _ (e2.trans e3) (A3.newL hp (Als.mk (f := V.str)))⟩
/-- f-strings -/
theorem ev_fmtS {s : Str} (h : Ev ta σ G M M1 (pS s)) (hz : s.length ≤ sizeLine) : Ev (tFmt ta) σ G M M1 (pS s) := fun G1 H a A Q k => h G1 H a A _ fun v G2 H2 e2 A2 hv => .inl ⟨s, hv, hz, k _ G2 H2 e2 A2 rfl⟩
theorem ev_fmtI {n : Int} (h : Ev ta σ G M M1 (pI n)) (hz : n.natAbs.log2 < 1920) : Ev (tFmt ta) σ G M M1 (pS (toString n)) := fun G1 H a A Q k => h G1 H a A _ fun v G2 H2 e2 A2 hv => .inr ⟨n, hv, hz, k _ G2 H2 e2 A2 rfl⟩
def EvJ (ts : List TE) (acc : Str) (σ : L2.St) (G : Hp) (M M' : Cells) (out : Str) : Prop := ∀ G1 H, Same G G1 → At G1 M H → ∀ Q : Str → Hp → Prop, (∀ G' H', Same G1 G' → At G' M' H' → Q out H') → tJs ts acc σ H Q
theorem ej_nil {acc : Str} : EvJ [] acc σ G M M acc := fun G1 H a A Q k => k G1 H (Same.refl _) A
theorem ej_cons {ts : List TE} {acc s out : Str} (h : Ev ta σ G M M1 (pS s)) (hr : EvJ ts (acc ++ s) σ G M1 M2 out) (hz : (acc ++ s).length ≤ sizeLine) : EvJ (ta :: ts) acc σ G M M2 out := fun G1 H a A Q k => h G1 H a A _ fun v G2 H2 e2 A2 hv =>
  ⟨s, hv, hz, hr G2 H2 (a.trans e2) A2 Q fun G3 H3 e3 => k G3 H3 (e2.trans e3)⟩
theorem ev_fstr {ts : List TE} {out : Str} (h : EvJ ts Str.empty σ G M M1 out) : Ev (fun σ H Q => tJs ts Str.empty σ H fun out H1 => Q (.str out) H1) σ G M M1 (pS out) := fun G1 H a A Q k => h G1 H a A _ fun G2 H2 e2 A2 => k _ G2 H2 e2 A2 rfl
/-! truth -/
theorem et_truI {n : Int} (h : Ev ta σ G M M1 (pI n)) : EvT (fun σ H Q => ta σ H fun x H' => ∃ k, TruV K x H' k ∧ Q k H') σ G M M1 (n != 0) := fun G1 H a A Q k => h G1 H a A _ fun v G2 H2 e2 A2 hv => by
  cases (show v = .int n from hv)
  exact ⟨_, rfl, k G2 H2 e2 A2⟩
theorem et_truB {b : Bool} (h : Ev ta σ G M M1 (pB b)) : EvT (fun σ H Q => ta σ H fun x H' => ∃ k, TruV K x H' k ∧ Q k H') σ G M M1 b := fun G1 H a A Q k => h G1 H a A _ fun v G2 H2 e2 A2 hv => by
  cases (show v = .bl b from hv)
  exact ⟨_, rfl, k G2 H2 e2 A2⟩
theorem ev_orS {s w : Str} (ha : Ev ta σ G M M (pS s)) (hb : Ev tb σ G M M (pS w)) (hz : s.length ≤ sizeLine) : Ev (tOrT K ta tb) σ G M M (pS (if s.length = 0 then w else s)) := fun G1 H a A Q k => ha G1 H a A _ fun v G2 H2 e2 A2 hv => by
  cases (show v = .str s from hv)
  refine ⟨_, ⟨hz, rfl⟩, ?_⟩
  by_cases hs : s.length = 0
  · rw [if_pos hs] at k
    have e : ((s.length : Int) != 0) = false := by rw [hs]; rfl
    rw [e, if_neg Bool.false_ne_true]
    exact hb G2 H2 (a.trans e2) A2 Q fun v G3 H3 e3 => k v G3 H3 (e2.trans e3)
  · rw [if_neg hs] at k
    have e : ((s.length : Int) != 0) = true := by
      rw [bne_iff_ne]; omega
    rw [e, if_pos rfl]
    exact k _ G2 H2 e2 A2 rfl
/-! in -/
theorem ev_inS {c : Nat} {s : Str} (ha : Ev ta σ G M M1 (pS ⟨#[c]⟩)) (hb : Ev tb σ G M1 M2 (pS s)) : Ev (tOp (fun x y H Q => ∃ (c : Nat) (z : Str), x = .str ⟨#[c]⟩ ∧ y = .str z ∧ Q (.bl (decide (c ∈ z.cps.toList))) H) ta tb) σ G M M2 (pB (decide (c ∈ s.cps.toList))) := ev_rv ha hb fun Q H q => ⟨c, s, rfl, rfl, q⟩
theorem ev_ninS {c : Nat} {s : Str} (ha : Ev ta σ G M M1 (pS ⟨#[c]⟩)) (hb : Ev tb σ G M1 M2 (pS s)) : Ev (tOp (fun x y H Q => ∃ (c : Nat) (z : Str), x = .str ⟨#[c]⟩ ∧ y = .str z ∧ Q (.bl (!decide (c ∈ z.cps.toList))) H) ta tb) σ G M M2 (pB (!decide (c ∈ s.cps.toList))) := ev_rv ha hb fun Q H q => ⟨c, s, rfl, rfl, q⟩
/-- x in a list or tuple of flat things whose values are known -/
theorem ev_inT {vs : List V} (ha : Ev ta σ G M M1 (pV x)) (hb : Ev tb σ G M1 M2 (pT K (vs.map pV))) (hx : flatV x = true) (hf : vs.all flatV = true) : Ev (tOp (rIn K false) ta tb) σ G M M2 (pB (inV x vs)) := ev_op ha hb fun v w G' H _ A hv ⟨a, us, hw, hs, hal⟩ Q k => by
  cases (show v = x from hv)
  have e := Als.vals (f := fun v => v) hal
  rw [List.map_id'] at e
  subst e
  exact ⟨a, _, hw, .inr (same_sqT A.g hs), hx, hf, k _ G' H (Same.refl _) A rfl⟩
theorem ev_ninT {vs : List V} (ha : Ev ta σ G M M1 (pV x)) (hb : Ev tb σ G M1 M2 (pT K (vs.map pV))) (hx : flatV x = true) (hf : vs.all flatV = true) : Ev (tOp (rIn K true) ta tb) σ G M M2 (pB (!inV x vs)) := ev_op ha hb fun v w G' H _ A hv ⟨a, us, hw, hs, hal⟩ Q k => by
  cases (show v = x from hv)
  have e := Als.vals (f := fun v => v) hal
  rw [List.map_id'] at e
  subst e
  exact ⟨a, _, hw, .inr (same_sqT A.g hs), hx, hf, k _ G' H (Same.refl _) A rfl⟩
theorem ev_inL {vs : List V} (ha : Ev ta σ G M M1 (pV x)) (hb : Ev tb σ G M1 M2 (pL (vs.map pV))) (hx : flatV x = true) (hf : vs.all flatV = true) : Ev (tOp (rIn K false) ta tb) σ G M M2 (pB (inV x vs)) := ev_op ha hb fun v w G' H _ A hv ⟨a, us, hw, hs, hal⟩ Q k => by
  cases (show v = x from hv)
  have e := Als.vals (f := fun v => v) hal
  rw [List.map_id'] at e
  subst e
  exact ⟨a, _, hw, .inl (SqL.of (A.g _ _ hs)), hx, hf, k _ G' H (Same.refl _) A rfl⟩
theorem ev_ninL {vs : List V} (ha : Ev ta σ G M M1 (pV x)) (hb : Ev tb σ G M1 M2 (pL (vs.map pV))) (hx : flatV x = true) (hf : vs.all flatV = true) : Ev (tOp (rIn K true) ta tb) σ G M M2 (pB (!inV x vs)) := ev_op ha hb fun v w G' H _ A hv ⟨a, us, hw, hs, hal⟩ Q k => by
  cases (show v = x from hv)
  have e := Als.vals (f := fun v => v) hal
  rw [List.map_id'] at e
  subst e
  exact ⟨a, _, hw, .inl (SqL.of (A.g _ _ hs)), hx, hf, k _ G' H (Same.refl _) A rfl⟩
/-! is None -/
theorem ev_isN (ha : Ev ta σ G M M1 (pV x)) : Ev (tOp (fun x y H Q => y = .non ∧ Q (.bl (decide (x = .non))) H) ta (tC .non)) σ G M M1 (pB (decide (x = .non))) := ev_rv ha ev_c fun Q H q => ⟨rfl, q⟩
theorem ev_notN (ha : Ev ta σ G M M1 (pV x)) : Ev (tOp (fun x y H Q => y = .non ∧ Q (.bl (!decide (x = .non))) H) ta (tC .non)) σ G M M1 (pB (!decide (x = .non))) := ev_rv ha ev_c fun Q H q => ⟨rfl, q⟩
/-- .. of what is an object, or of what is said to be none or not -/
theorem ev_isNb {b : Bool} (ha : Ev ta σ G M M1 φ) (hb : ∀ v G', φ.h v G' → decide (v = .non) = b) : Ev (tOp (fun x y H Q => y = .non ∧ Q (.bl (decide (x = .non))) H) ta (tC .non)) σ G M M1 (pB b) := fun G1 H a A Q k => ha G1 H a A _ fun v G2 H2 e2 A2 hv => ⟨rfl, by rw [hb v G2 hv]; exact k _ G2 H2 e2 A2 rfl⟩
theorem ev_notNb {b : Bool} (ha : Ev ta σ G M M1 φ) (hb : ∀ v G', φ.h v G' → (!decide (v = .non)) = b) : Ev (tOp (fun x y H Q => y = .non ∧ Q (.bl (!decide (x = .non))) H) ta (tC .non)) σ G M M1 (pB b) := fun G1 H a A Q k => ha G1 H a A _ fun v G2 H2 e2 A2 hv => ⟨rfl, by rw [hb v G2 hv]; exact k _ G2 H2 e2 A2 rfl⟩
/-! == of data -/
theorem ev_eqD {d e : PyData} (ha : Ev ta σ G M M1 (pD K d)) (hb : Ev tb σ G M1 M2 (pD K e)) (hd : SeqAt.shaped d = true) (he : SeqAt.shaped e = true) : Ev (tOp (rEqD K) ta tb) σ G M M2 (pB (PyData.eqv d e)) := ev_op ha hb fun v w G' H _ A hv hw Q k => ⟨d, e, dp_m A.g d v hv, dp_m A.g e w hw, hd, he, k _ G' H (Same.refl _) A rfl⟩
theorem ev_neD {d e : PyData} (ha : Ev ta σ G M M1 (pD K d)) (hb : Ev tb σ G M1 M2 (pD K e)) (hd : SeqAt.shaped d = true) (he : SeqAt.shaped e = true) : Ev (tOp (rNeD K) ta tb) σ G M M2 (pB (!PyData.eqv d e)) := ev_op ha hb fun v w G' H _ A hv hw Q k => ⟨d, e, dp_m A.g d v hv, dp_m A.g e w hw, hd, he, k _ G' H (Same.refl _) A rfl⟩
end
end Sg
namespace Sg
open PySem PySem.Spec L2
section
variable {K : PySem.W.Frag} {σ : L2.St} {G G0 : Hp} {M M1 M2 M3 N : Cells} {φ ψ : Pr} {ps qs : List Pr} {ta tb te tx tl : TE} {t u tt : TT} {x y z : V} {i : Nat} {O : Out} {tu tw tz : TS} {g : TG} {tr : TA} {vs : List Nat}
/-! data and what is said of values -/
theorem Ev.dI {n : Int} (h : Ev ta σ G M M1 (pI n)) : Ev ta σ G M M1 (pD K (.int n)) := h.imp fun v _ _ e => by cases (show v = .int n from e); exact .int n
theorem Ev.dB {n : Bool} (h : Ev ta σ G M M1 (pB n)) : Ev ta σ G M M1 (pD K (.bool n)) := h.imp fun v _ _ e => by cases (show v = .bl n from e); exact .bl n
theorem Ev.dS {n : Str} (h : Ev ta σ G M M1 (pS n)) : Ev ta σ G M M1 (pD K (.str n)) := h.imp fun v _ _ e => by cases (show v = .str n from e); exact .str n
theorem Ev.dN (h : Ev ta σ G M M1 pN) : Ev ta σ G M M1 (pD K .none) := h.imp fun v _ _ e => by cases (show v = .non from e); exact .non
theorem Ev.vI {n : Int} (h : Ev ta σ G M M1 (pD K (.int n))) : Ev ta σ G M M1 (pI n) := h.imp fun v _ _ e => by cases (show Dp K _ v (.int n) from e); rfl
theorem Ev.vB {n : Bool} (h : Ev ta σ G M M1 (pD K (.bool n))) : Ev ta σ G M M1 (pB n) := h.imp fun v _ _ e => by cases (show Dp K _ v (.bool n) from e); rfl
theorem Ev.vS {n : Str} (h : Ev ta σ G M M1 (pD K (.str n))) : Ev ta σ G M M1 (pS n) := h.imp fun v _ _ e => by cases (show Dp K _ v (.str n) from e); rfl
theorem Ev.vN (h : Ev ta σ G M M1 (pD K .none)) : Ev ta σ G M M1 pN := h.imp fun v _ _ e => by cases (show Dp K _ v .none from e); rfl
theorem dI_h {G : Hp} {v : V} {n : Int} (h : (pD K (.int n)).h v G) : v = .int n := by cases (show Dp K _ v (.int n) from h); rfl
theorem dB_h {G : Hp} {v : V} {n : Bool} (h : (pD K (.bool n)).h v G) : v = .bl n := by cases (show Dp K _ v (.bool n) from h); rfl
theorem dS_h {G : Hp} {v : V} {n : Str} (h : (pD K (.str n)).h v G) : v = .str n := by cases (show Dp K _ v (.str n) from h); rfl
theorem dN_h {G : Hp} {v : V} (h : (pD K .none).h v G) : v = .non := by cases (show Dp K _ v .none from h); rfl
theorem dT_h {G : Hp} {v : V} {ds : List PyData} (h : (pD K (.tuple ds)).h v G) : (pT K (ds.map (pD K))).h v G := by
  cases (show Dp K _ v (.tuple ds) from h) with
  | tup hs ha => exact ⟨_, _, rfl, hs, als_dpa ha⟩
theorem hT_d {G : Hp} {v : V} {ds : List PyData} (h : (pT K (ds.map (pD K))).h v G) : (pD K (.tuple ds)).h v G := by
  obtain ⟨a, vs, rfl, hs, ha⟩ := h
  exact .tup hs (dpa_als ha)
theorem hL_d {G : Hp} {v : V} {ds : List PyData} (h : (pL (ds.map (pD K))).h v G) : (pD K (.list ds)).h v G := by
  obtain ⟨a, vs, rfl, hs, ha⟩ := h
  exact .lst (SqL.of hs) (dpa_als ha)
theorem Ev.vT {ds : List PyData} (h : Ev ta σ G M M1 (pD K (.tuple ds))) : Ev ta σ G M M1 (pT K (ds.map (pD K))) := h.imp fun _ _ _ e => dT_h e
theorem Ev.dT {ds : List PyData} (h : Ev ta σ G M M1 (pT K (ds.map (pD K)))) : Ev ta σ G M M1 (pD K (.tuple ds)) := h.imp fun _ _ _ e => hT_d e
theorem Ev.dL {ds : List PyData} (h : Ev ta σ G M M1 (pL (ds.map (pD K)))) : Ev ta σ G M M1 (pD K (.list ds)) := h.imp fun _ _ _ e => hL_d e
/-! isinstance -/
def tyName : PyData → String
  | .none => "NoneType"
  | .bool _ => "bool"
  | .int _ => "int"
  | .str _ => "str"
  | .list _ => "list"
  | .tuple _ => "tuple"
  | .dict _ => "dict"
theorem sqL_ty {H : Hp} {a : Addr} {xs : List V} (h : SqL K H a xs) : TyX K H (.ref a) (.type "list") := by
  rcases h with (h | ⟨o, h⟩) | ⟨o, its, n, h1, h2, _⟩
  · exact .base (.lst h)
  · exact .base (.frz h)
  · exact .kList h1 h2
theorem sqT_ty {H : Hp} {a : Addr} {xs : List V} (h : SqT K H a xs) : TyX K H (.ref a) (.type "tuple") := by
  rcases h with (h | ⟨o, h⟩) | ⟨o, its, n, h1, h2, _⟩
  · exact .base (.tup h)
  · exact .fTuple h
  · exact .kTuple h1 h2
theorem dp_ty {H : Hp} {v : V} {d : PyData} (h : Dp K H v d) : TyX K H v (.type (tyName d)) := by
  cases h with
  | non => exact .base .non
  | bl b => exact .base (.bl b)
  | int i => exact .base (.int i)
  | str s => exact .base (.str s)
  | lst hs _ => exact sqL_ty hs
  | tup hs _ => exact sqT_ty hs
/-- isinstance(x, T), T built-in -/
theorem ev_isi {a T : String} {b : Bool} (ha : Ev ta σ G M M1 φ) (hty : ∀ v H, φ.h v H → TyX K H v (.type a)) (hk : kitB a T = some b) : Ev (tCB (rIsi K) (tCons ta (tCons (tC (.ty T)) tNil))) σ G M M1 (pB b) :=
  ev_cb (ea_cons ha (ea_cons ev_c ea_nil)) fun vs G' H e A hvs Q k => by
    match vs, hvs with
    | [v, w], ⟨h1, h2, _⟩ =>
      cases (show w = .ty T from h2)
      exact ⟨v, .ty T, .type a, .type T, b, rfl, .ty T, hty v H (φ.m A.g h1), kit_ty hk, k _ G' H (Same.refl _) A rfl⟩
def isTy (T : String) (d : PyData) : Bool := kitB (tyName d) T == some true
theorem kit_int (d : PyData) : (kitB (tyName d) "int").isSome = true := by cases d <;> rfl
theorem kit_bool (d : PyData) : (kitB (tyName d) "bool").isSome = true := by cases d <;> rfl
theorem kit_str (d : PyData) : (kitB (tyName d) "str").isSome = true := by cases d <;> rfl
theorem kit_tuple (d : PyData) : (kitB (tyName d) "tuple").isSome = true := by cases d <;> rfl
theorem kit_list (d : PyData) : (kitB (tyName d) "list").isSome = true := by cases d <;> rfl
theorem ev_isiD {T : String} {d : PyData} (ha : Ev ta σ G M M1 (pD K d)) (hk : (kitB (tyName d) T).isSome = true := by first | exact kit_int _ | exact kit_bool _ | exact kit_str _ | exact kit_tuple _ | exact kit_list _) : Ev (tCB (rIsi K) (tCons ta (tCons (tC (.ty T)) tNil))) σ G M M1 (pB (isTy T d)) :=
  ev_isi ha (fun v H h => dp_ty h) (by
    unfold isTy
    cases e : kitB (tyName d) T with
    | none => rw [e] at hk; cases hk
    | some r => cases r <;> rfl)
theorem isTy_int (d : PyData) : isTy "int" d = match d with | .int _ => true | .bool _ => true | _ => false := by cases d <;> rfl
theorem isTy_bool (d : PyData) : isTy "bool" d = match d with | .bool _ => true | _ => false := by cases d <;> rfl
theorem isTy_str (d : PyData) : isTy "str" d = match d with | .str _ => true | _ => false := by cases d <;> rfl
theorem isTy_tuple (d : PyData) : isTy "tuple" d = match d with | .tuple _ => true | _ => false := by cases d <;> rfl
theorem isTy_list (d : PyData) : isTy "list" d = match d with | .list _ => true | _ => false := by cases d <;> rfl
/-- of an owned list -/
theorem ev_isiM {T : String} {b : Bool} {p : Addr} (ha : Ev ta σ G M M1 (pV (.ref p))) (hm : (p, CD.lst ps) ∈ M1) (hk : kitB "list" T = some b) : Ev (tCB (rIsi K) (tCons ta (tCons (tC (.ty T)) tNil))) σ G M M1 (pB b) :=
  ev_cb (ea_cons ha (ea_cons ev_c ea_nil)) fun vs G' H e A hvs Q k => by
    match vs, hvs with
    | [v, w], ⟨h1, h2, _⟩ =>
      cases (show w = .ty T from h2)
      cases (show v = .ref p from h1)
      obtain ⟨us, hu, _⟩ := A.lst hm
      exact ⟨.ref p, .ty T, .type "list", .type T, b, rfl, .ty T, .base (.lst hu), kit_ty hk, k _ G' H (Same.refl _) A rfl⟩
/-- tuples, lists displayed, as data -/
theorem ev_tupD {ds : List PyData} (h : EvA tr σ G M M1 (ds.map (pD K))) (hl : Nat.ble ds.length 100000 = true := by rfl) : Ev (tTup tr) σ G M M1 (pD K (.tuple ds)) := (ev_tup h (by rw [List.length_map]; exact hl)).dT
/-- item of a written list of ints -/
theorem ev_ixOf {α : Type} {F : α → Pr} {j : Int} (xs : List α) (d : α) (ha : EvO ta σ G M M1 (xs.map F)) (hb : Ev tb σ G M1 M2 (pI j)) (n : Nat) (h0 : 0 ≤ j) (h1 : j < (n : Int)) (hn : xs.length = n := by rfl) : Ev (tOp (rIxL K) ta tb) σ G M M2 (F (xs.getD j.toNat d)) :=
  ev_ixO ha hb (by
    subst hn
    obtain ⟨n, rfl⟩ : ∃ n : Nat, j = n := ⟨j.toNat, by omega⟩
    refine at0 ?_
    have hn : n < xs.length := by omega
    rw [List.getElem?_map, List.getElem?_eq_getElem hn]
    simp [List.getD, List.getElem?_eq_getElem hn])
theorem ev_ixOI {j : Int} (xs : List Int) (ha : EvO ta σ G M M1 (xs.map pI)) (hb : Ev tb σ G M1 M2 (pI j)) (n : Nat) (h0 : 0 ≤ j) (h1 : j < (n : Int)) (hn : xs.length = n := by rfl) : Ev (tOp (rIxL K) ta tb) σ G M M2 (pI (xs.getD j.toNat 0)) := ev_ixOf xs 0 ha hb n h0 h1 hn
theorem ev_ixOS {j : Int} (xs : List Str) (ha : EvO ta σ G M M1 (xs.map pS)) (hb : Ev tb σ G M1 M2 (pI j)) (n : Nat) (h0 : 0 ≤ j) (h1 : j < (n : Int)) (hn : xs.length = n := by rfl) : Ev (tOp (rIxL K) ta tb) σ G M M2 (pS (xs.getD j.toNat Str.empty)) := ev_ixOf xs Str.empty ha hb n h0 h1 hn
end
end Sg
namespace Sg
open PySem PySem.Spec L2
/-! ### objects -/
theorem lk_zip {f : Str} : ∀ {ns : List Str} {vs : List V} {j : Nat} {v : V}, ns.findIdx? (· == f) = some j → vs[j]? = some v → (ns.zip vs).lookup f = some v
  | [], _, _, _, h, _ => by simp at h
  | n :: ns, vs, j, v, h, hv => by
    cases vs with
    | nil => simp at hv
    | cons w ws =>
      rw [List.findIdx?_cons] at h
      show (match f == n with | true => some w | false => (ns.zip ws).lookup f) = some v
      by_cases e : n = f
      · subst e
        have : (n == n) = true := by simp
        rw [this] at h ⊢
        simp at h
        subst h
        simpa using hv
      · have e1 : (n == f) = false := by simpa using e
        have e2 : (f == n) = false := by simpa using fun q => e q.symm
        rw [e1] at h
        rw [e2]
        simp at h
        obtain ⟨k, hk, rfl⟩ := h
        exact lk_zip hk (by simpa using hv)
theorem lk_none {f : Str} : ∀ {ns : List Str} {vs : List V}, f ∉ ns → (ns.zip vs).lookup f = none
  | [], _, _ => rfl
  | n :: ns, [], _ => rfl
  | n :: ns, w :: ws, h => by
    have e2 : (f == n) = false := by simpa using fun q => h (by simp [q])
    show (match f == n with | true => some w | false => (ns.zip ws).lookup f) = none
    rw [e2]
    exact lk_none (fun q => h (List.mem_cons_of_mem _ q))
theorem putF_new {f : Str} {y : V} : ∀ {ns : List Str} {vs : List V}, f ∉ ns → vs.length = ns.length → putF f y (ns.zip vs) = (ns ++ [f]).zip (vs ++ [y])
  | [], [], _, _ => rfl
  | n :: ns, w :: ws, h, hl => by
    show (if n = f then (n, y) :: ns.zip ws else (n, w) :: putF f y (ns.zip ws)) = _
    rw [if_neg (fun q => h (by simp [q])), putF_new (fun q => h (List.mem_cons_of_mem _ q)) (by simpa using hl)]
    rfl
  | [], _ :: _, _, hl => by simp at hl
  | _ :: _, [], _, hl => by simp at hl
theorem putF_set {f : Str} {y : V} : ∀ {ns : List Str} {vs : List V} {j : Nat}, ns.findIdx? (· == f) = some j → vs.length = ns.length → putF f y (ns.zip vs) = ns.zip (vs.set j y)
  | [], _, _, h, _ => by simp at h
  | n :: ns, [], _, _, hl => by simp at hl
  | n :: ns, w :: ws, j, h, hl => by
    rw [List.findIdx?_cons] at h
    show (if n = f then (n, y) :: ns.zip ws else (n, w) :: putF f y (ns.zip ws)) = _
    by_cases e : n = f
    · subst e
      have : (n == n) = true := by simp
      rw [this] at h
      simp at h
      subst h
      rw [if_pos rfl]
      rfl
    · have e1 : (n == f) = false := by simpa using e
      rw [e1] at h
      simp at h
      obtain ⟨k, hk, rfl⟩ := h
      rw [if_neg e, putF_set hk (by simpa using hl)]
      rfl
section
variable {K : PySem.W.Frag} {σ : L2.St} {G G0 : Hp} {M M1 M2 M3 N : Cells} {φ ψ : Pr} {ps qs : List Pr} {ta tb te tv tx tl : TE} {t u tt : TT} {x y z : V} {i : Nat} {O : Out} {tu tw tz : TS} {g : TG} {tr : TA} {vs : List Nat} {C : Addr} {fs : List (Str × Pr)} {f : Str} {E : XK}
theorem At.newI {G H : Hp} {M : Cells} {p dx : Addr} (A : At G M H) (hp : H p = none) (hd : H dx = none) (ne : dx ≠ p) : At G ((p, .ins C []) :: M) (upd (upd H dx (.own p)) p (.ins C dx [])) := by
  obtain ⟨g0, n0⟩ := A.fresh hd
  have A1 : At G M (upd H dx (.own p)) := A.ext fun a o h => by rw [upd_ne (ne_of_none h hd)]; exact h
  exact A1.newM (c := .ins C []) (by rw [upd_ne (Ne.symm ne)]; exact hp) (show ∃ dx' vs, _ ∧ _ from ⟨dx, [], upd_same, trivial⟩)
/-- a new instance, owned -/
def EvI (te : TE) (σ : L2.St) (G : Hp) (M M' : Cells) (C : Addr) (fs : List (Str × Pr)) : Prop := ∀ G1 H, Same G G1 → At G1 M H → ∀ Q : VK, (∀ p G' H', Same G1 G' → At G' ((p, .ins C fs) :: M') H' → Q (.ref p) H') → te σ H Q
theorem EvI.keep (h : EvI te σ G M M1 C fs) : Ev te σ G M M1 (pO C fs) := fun G1 H a A Q k => h G1 H a A Q fun p G2 H2 e2 A2 => by
  obtain ⟨G3, e3, A3, h3⟩ := A2.keepO
  exact k (.ref p) G3 H2 (e2.trans e3) A3 h3
/-- C(..), by what __init__ promises -/
theorem ei_make {sp : Sp} (ha : EvA tr σ G M M1 ps) (hs : ∀ p G' H' vs, Same G G' → Als G' ps vs → At G' ((p, .ins C []) :: M1) H' → ∀ Q : VK, (∀ G2 H2, Same G' G2 → At G2 ((p, .ins C fs) :: M2) H2 → Q .non H2) → sp (.ref p :: vs) H' Q E) : EvI (tMake C sp [] E tr) σ G M M2 C fs := fun G1 H a A Q k =>
  ha G1 H a A _ fun vs G2 H2 e2 A2 hvs x dx hx hdx ne => by
    rw [List.append_nil]
    exact hs x G2 _ vs (a.trans e2) hvs (A2.newI hx hdx ne) _ fun G3 H3 e3 A3 => ⟨rfl, k x G3 H3 (e2.trans e3) A3⟩
/-- o.f = e, o owned and first: a new field | one that is there -/
theorem s_fldN {p : Addr} (h : Ev tv σ G M M1 φ) (ho : Ev ta σ G M1 ((p, .ins C fs) :: M2) (pV (.ref p))) (cl : Cls K C) (na : NoAttr K C f) (hf0 : (fs.map Prod.fst).all (fun g => !(g == f)) = true) (hl0 : Nat.ble (fs.length + 1) 1000 = true) (k : ∀ G1, Same G G1 → O.nx σ G1 ((p, .ins C (fs ++ [(f, φ)])) :: M2)) : Sm (sFld K ta tv f) σ G M O := fun G1 H a A D d =>
  h G1 H a A _ fun v G2 H2 e2 A2 hv => ho G2 H2 (a.trans e2) A2 _ fun w G3 H3 e3 A3 hw => by
    have hf : f ∉ fs.map Prod.fst := fun q => by
      have := List.all_eq_true.mp hf0 f q
      simp at this
    have hl : fs.length < 1000 := Nat.le_of_ble_eq_true hl0
    cases (show w = .ref p from hw)
    obtain ⟨dx, vs, h1, h2⟩ := A3.head
    refine ⟨p, C, dx, _, rfl, h1, cl, na, Nat.lt_of_le_of_lt (by rw [List.length_zip, List.length_map]; exact Nat.min_le_left _ _) hl, ?_⟩
    have el : vs.length = (fs.map Prod.fst).length := by rw [h2.len, List.length_map, List.length_map]
    rw [putF_new hf el]
    refine d.nx σ G3 _ _ (e2.trans e3) (A3.put (c' := .ins C (fs ++ [(f, φ)])) (show ∃ dx' us, _ ∧ _ from ⟨dx, vs ++ [v], ?_, ?_⟩)) (k G3 ((a.trans e2).trans e3))
    · rw [upd_same, List.map_append]; rfl
    · rw [List.map_append]
      exact h2.app (qs := [φ]) (ws := [v]) (Als.cons (φ.m e3 hv) Als.nil)
theorem q_fldN {p : Addr} (h : Ev tv σ G M M1 φ) (ho : Ev ta σ G M1 ((p, .ins C fs) :: M2) (pV (.ref p))) (cl : Cls K C) (na : NoAttr K C f) (hf0 : (fs.map Prod.fst).all (fun g => !(g == f)) = true) (hl0 : Nat.ble (fs.length + 1) 1000 = true) (k : ∀ G1, Same G G1 → Sm tz σ G1 ((p, .ins C (fs ++ [(f, φ)])) :: M2) O) : Sm (tSeq (sFld K ta tv f) tz) σ G M O := Sm.seq (s_fldN h ho cl na hf0 hl0 k)
theorem s_fldS {p : Addr} {j : Nat} (h : Ev tv σ G M M1 φ) (ho : Ev ta σ G M1 ((p, .ins C fs) :: M2) (pV (.ref p))) (cl : Cls K C) (na : NoAttr K C f) (hf : (fs.map Prod.fst).findIdx? (· == f) = some j) (hl : fs.length < 1000) (k : ∀ G1, Same G G1 → O.nx σ G1 ((p, .ins C (fs.set j (f, φ))) :: M2)) : Sm (sFld K ta tv f) σ G M O := fun G1 H a A D d =>
  h G1 H a A _ fun v G2 H2 e2 A2 hv => ho G2 H2 (a.trans e2) A2 _ fun w G3 H3 e3 A3 hw => by
    cases (show w = .ref p from hw)
    obtain ⟨dx, vs, h1, h2⟩ := A3.head
    refine ⟨p, C, dx, _, rfl, h1, cl, na, Nat.lt_of_le_of_lt (by rw [List.length_zip, List.length_map]; exact Nat.min_le_left _ _) hl, ?_⟩
    have el : vs.length = (fs.map Prod.fst).length := by rw [h2.len, List.length_map, List.length_map]
    have en : (fs.set j (f, φ)).map Prod.fst = fs.map Prod.fst := by
      rw [List.map_set]
      have hj := List.findIdx?_eq_some_iff_getElem.mp hf
      obtain ⟨hj1, hj2, _⟩ := hj
      have : (fs.map Prod.fst)[j] = f := by simpa using hj2
      refine List.ext_getElem (by simp) fun n h1 h2 => ?_
      by_cases e : j = n
      · subst e; simp [this]
      · rw [List.getElem_set_ne e]
    rw [putF_set hf el]
    refine d.nx σ G3 _ _ (e2.trans e3) (A3.put (c' := .ins C (fs.set j (f, φ))) (show ∃ dx' us, _ ∧ _ from ⟨dx, vs.set j v, ?_, ?_⟩)) (k G3 ((a.trans e2).trans e3))
    · rw [upd_same, en]
    · rw [List.map_set]
      exact h2.set (φ.m e3 hv) j
/-- o.f of a lasting instance | of an owned one -/
theorem ev_fldO {j : Nat} (ha : Ev ta σ G M M1 φ) (hφ : ∀ v G', φ.h v G' → (pO C fs).h v G') (cl : Cls K C) (na : NoAttr K C f) (hf : (fs.map Prod.fst).findIdx? (· == f) = some j) (hj : (fs.map Prod.snd)[j]? = some ψ) : Ev (tFld K ta f) σ G M M1 ψ := fun G1 H a A Q k => ha G1 H a A _ fun v G2 H2 e2 A2 hv => by
  obtain ⟨o, dx, vs, h1, h2, h3⟩ := hφ v G2 hv
  obtain ⟨w, hw, hp⟩ := h3.get hj
  exact ⟨o, C, dx, _, w, h1, A2.g _ _ h2, cl, na, lk_zip hf hw, k w G2 H2 e2 A2 hp⟩
theorem ev_fldM {p : Addr} {j : Nat} (ha : Ev ta σ G M M1 (pV (.ref p))) (hm : (p, CD.ins C fs) ∈ M1) (cl : Cls K C) (na : NoAttr K C f) (hf : (fs.map Prod.fst).findIdx? (· == f) = some j) (hj : (fs.map Prod.snd)[j]? = some ψ) : Ev (tFld K ta f) σ G M M1 ψ := fun G1 H a A Q k => ha G1 H a A _ fun v G2 H2 e2 A2 hv => by
  cases (show v = .ref p from hv)
  obtain ⟨dx, vs, h2, h3⟩ := (A2.c _ hm).2
  obtain ⟨w, hw, hp⟩ := h3.get hj
  exact ⟨p, C, dx, _, w, rfl, h2, cl, na, lk_zip hf hw, k w G2 H2 e2 A2 hp⟩
/-! a method of one of several classes -/
def tMethV {ι : Type} (cA : ι → Addr) (S : ι → Prop) (m : Str) (sp : ι → Sp) (E : XK) (ta : TE) (t : TA) : TE := fun σ H Q => ta σ H fun x H1 => ∃ a C dx fs, x = .ref a ∧ S C ∧ H1 a = some (.ins (cA C) dx fs) ∧ fs.lookup m = none ∧ t σ H1 fun vs H2 => sp C (x :: vs) H2 Q E
theorem pe_mtV {X : Cx} {ι : Type} {cA : ι → Addr} {S : ι → Prop} {sp : ι → Sp} {m : Str} {j k : Nat} {o e : Expr} {es : List Expr} {ta : TE} {t : TA} {apos pos : Pos} {pl : Sem Bool} (c : ∀ C, S C → C8.Met X.prog X.w X.K X.mg X.base k (cA C) m (sp C) []) (hr : Room j X.A) (hk : k ≤ j) (he : PE X o ta) (ha : PA X (e :: es) t)
    (hst : starEach (e :: es) X.env = (false, eval e X.env) :: starEach es X.env := by rfl) (hpl : (backTo pos (starEach es X.env)).any (·.1) = false := by rfl)
    (ht : eval (.Call (.Attribute o m apos) (e :: es) [] pos) X.env = (do
      let ov ← eval o X.env
      standAt apos.atName
      let (f, first) ← holding [ov] (getMethod ov m pl)
      callWith pos f first (backTo pos (starEach (e :: es) X.env)) (backToKw pos (keywordEach [] X.env))) := by rfl) :
    PE X (.Call (.Attribute o m apos) (e :: es) [] pos) (tMethV cA S m sp E0 ta t) := by
  refine ⟨fun pins s σ H Q I h => ?_⟩
  refine PySem.W.methodCall_KW (pl := pl) (thn (he.run pins s σ H _ I h) fun u s1 ⟨x, H1, I1, rx, a, C, dx, fs, ex, hS, ea, l, q⟩ => ?_) ht
  obtain ⟨f, fd, ps, ds, hc, hm, F, b, d⟩ := (c C hS).ex
  subst ex
  obtain rfl : u = Value.ref a := rx
  refine getmeth_ok I1 ea hc hm l ?_
  refine PySem.W.callWith_K (first := [.ref a]) (h₀ := X.base) I.ok.mod.kin hm.kp (thn (ha.run pos pins s1 σ H1 _ I1 q) fun us s2 ⟨vs, H2, I2, r, q2⟩ => ⟨I2.kIn, ?_⟩) hst hpl
  exact run_fn (us := .ref a :: us) (vs := .ref a :: vs) F (hr.mono hk) b d pass0 I2 (.cons rfl r) (by rw [List.append_nil]; exact q2)
theorem pe_mtV0 {X : Cx} {ι : Type} {cA : ι → Addr} {S : ι → Prop} {sp : ι → Sp} {m : Str} {j k : Nat} {o : Expr} {ta : TE} {apos pos : Pos} {pl : Sem Bool} (c : ∀ C, S C → C8.Met X.prog X.w X.K X.mg X.base k (cA C) m (sp C) []) (hr : Room j X.A) (hk : k ≤ j) (he : PE X o ta)
    (ht : eval (.Call (.Attribute o m apos) [] [] pos) X.env = (do
      let ov ← eval o X.env
      standAt apos.atName
      let (f, first) ← holding [ov] (getMethod ov m pl)
      callWith pos f first (backTo pos (starEach [] X.env)) (backToKw pos (keywordEach [] X.env))) := by rfl) :
    PE X (.Call (.Attribute o m apos) [] [] pos) (tMethV cA S m sp E0 ta tNil) := by
  refine ⟨fun pins s σ H Q I h => ?_⟩
  refine PySem.W.methodCall_KW (pl := pl) (thn (he.run pins s σ H _ I h) fun u s1 ⟨x, H1, I1, rx, a, C, dx, fs, ex, hS, ea, l, q⟩ => ?_) ht
  obtain ⟨f, fd, ps, ds, hc, hm, F, b, d⟩ := (c C hS).ex
  subst ex
  obtain rfl : u = Value.ref a := rx
  refine getmeth_ok I1 ea hc hm l ?_
  exact PySem.W.callWith_K0 (first := [.ref a]) I1.kIn hm.kp (run_fn (us := [.ref a]) (vs := [.ref a]) F (hr.mono hk) b d pass0 I1 (.cons rfl .nil) (by rw [List.append_nil]; exact q))
/-- .. a method that a promise SpP1, SpP2 tells, of a lasting instance -/
theorem ev_mtV {ι : Type} {c0 : ι} {cA : ι → Addr} {S : ι → Prop} {sp : ι → Sp} {m : Str} (ha : Ev ta σ G M M1 φ) (hi : ∀ v G', φ.h v G' → ∃ a dx fs, v = .ref a ∧ G' a = some (.ins (cA c0) dx fs) ∧ fs.lookup m = none) (hS : S c0) (hr : EvA tr σ G M1 M2 ps)
    (hs : ∀ v vs G' H', Same G G' → At G' M2 H' → φ.h v G' → Als G' ps vs → ∀ Q : VK, (∀ w G2 H2, Same G' G2 → At G2 M3 H2 → ψ.h w G2 → Q w H2) → sp c0 (v :: vs) H' Q E) : Ev (tMethV cA S m sp E ta tr) σ G M M3 ψ := fun G1 H a A Q k => ha G1 H a A _ fun v G2 H2 e2 A2 hv => by
  obtain ⟨o, dx, fs, h1, h2, h3⟩ := hi v G2 hv
  refine ⟨o, c0, dx, fs, h1, hS, A2.g _ _ h2, h3, hr G2 H2 (a.trans e2) A2 _ fun vs G3 H3 e3 A3 hvs => ?_⟩
  exact hs v vs G3 H3 ((a.trans e2).trans e3) A3 (φ.m e3 hv) hvs Q fun w G4 H4 e4 A4 hw => k w G4 H4 ((e2.trans e3).trans e4) A4 hw
end
end Sg
/-! going through any iterable: one judgement Iw, loops and comprehensions over it -/
namespace Sg
open PySem PySem.Spec L2
section
variable {K : PySem.W.Frag} {σ : L2.St} {G G0 : Hp} {M M1 M2 M3 N : Cells} {φ ψ : Pr} {ps qs : List Pr} {ta tb te tx tl : TE} {t u tt : TT} {x y z : V} {i : Nat} {O : Out} {tu tw tz : TS} {g : TG} {tr : TA} {vs : List Nat} {it : TI}
def Iw (it : TI) (σ : L2.St) (G : Hp) (M M' : Cells) (ps : List Pr) : Prop := ∀ G1 H, Same G G1 → At G1 M H → ∀ R : It → Hp → Prop,
  (∀ (J : It) (Gd : Hp → Prop) (Y : Nat → Hp → V → Hp → Prop) G2 H2, Same G1 G2 → At G2 M' H2 → Walk J ps.length Gd Y → (∀ G3 N H3, Same G2 G3 → At G3 N H3 → Gd H3) →
    (∀ i x G3 N H3 H4, Same G2 G3 → At G3 N H3 → Y i H3 x H4 → ∃ p G4, ps[i]? = some p ∧ Same G3 G4 ∧ At G4 N H4 ∧ p.h x G4) → R J H2) → it σ H R
theorem iw_list (h : Ev tl σ G M M1 (pL ps)) : Iw (iList K tl) σ G M M1 ps := fun G1 H a A R k => h G1 H a A _ fun v G2 H2 e2 A2 ⟨l, us, hv, hq, hal⟩ => by
  subst hv
  refine ⟨l, rfl, ⟨us, SqL.of (A2.g _ _ hq)⟩, k _ _ _ G2 H2 e2 A2 (hal.len ▸ walk_list (K := K) (a := l) (xs := us)) (fun G3 N H3 e3 A3 => SqL.of (A3.g _ _ (e3 _ _ hq))) fun i x G3 N H3 H4 e3 A3 y => ?_⟩
  obtain ⟨rfl, hx⟩ := y
  obtain ⟨p, hp, hpx⟩ := hal.getV hx
  exact ⟨p, G3, hp, Same.refl _, A3, p.m e3 hpx⟩
theorem iw_quiet (h : Ev tl σ G M M1 (pQ K ps)) : Iw (iList K tl) σ G M M1 ps := fun G1 H a A R k => h G1 H a A _ fun v G2 H2 e2 A2 ⟨l, us, hv, hq, hal⟩ => by
  subst hv
  refine ⟨l, rfl, ⟨us, same_sq A2.g hq⟩, k _ _ _ G2 H2 e2 A2 (hal.len ▸ walk_list (K := K) (a := l) (xs := us)) (fun G3 N H3 e3 A3 => same_sq (e3.trans A3.g) hq) fun i x G3 N H3 H4 e3 A3 y => ?_⟩
  obtain ⟨rfl, hx⟩ := y
  obtain ⟨p, hp, hpx⟩ := hal.getV hx
  exact ⟨p, G3, hp, Same.refl _, A3, p.m e3 hpx⟩
theorem iw_tup (h : Ev tl σ G M M1 (pT K ps)) : Iw (iTup K tl) σ G M M1 ps := fun G1 H a A R k => h G1 H a A _ fun v G2 H2 e2 A2 ⟨l, us, hv, hq, hal⟩ => by
  subst hv
  refine ⟨l, rfl, ⟨us, same_sqT A2.g hq⟩, k _ _ _ G2 H2 e2 A2 (hal.len ▸ walk_tup (K := K) (a := l) (xs := us)) (fun G3 N H3 e3 A3 => same_sqT (e3.trans A3.g) hq) fun i x G3 N H3 H4 e3 A3 y => ?_⟩
  obtain ⟨rfl, hx⟩ := y
  obtain ⟨p, hp, hpx⟩ := hal.getV hx
  exact ⟨p, G3, hp, Same.refl _, A3, p.m e3 hpx⟩
theorem iw_str {s : Str} (h : Ev te σ G M M1 (pS s)) : Iw (iStr te) σ G M M1 (s.cps.toList.map fun c => pS ⟨#[c]⟩) := fun G1 H a A R k => h G1 H a A _ fun v G2 H2 e2 A2 hv => by
  cases (show v = .str s from hv)
  refine ⟨s, rfl, k _ _ _ G2 H2 e2 A2 (by rw [List.length_map, Array.length_toList]; exact walk_str) (fun _ _ _ _ _ => trivial) fun i x G3 N H3 H4 e3 A3 y => ?_⟩
  obtain ⟨rfl, c, hc, rfl⟩ := y
  refine ⟨pS ⟨#[c]⟩, G3, ?_, Same.refl _, A3, rfl⟩
  rw [List.getElem?_map, Array.getElem?_toList, hc]
  rfl
theorem walk_rgY {lo : Int} {n : Nat} : Walk (Itr lo n) n (fun _ => True) (fun i H x H' => i < n ∧ H' = H ∧ x = V.int (lo + (i : Int))) :=
  ⟨fun _ _ hi _ => hi, fun _ _ => Nat.le_refl _, fun _ _ _ _ hi _ y => ⟨hi, y.1, y.2⟩⟩
theorem iw_rng1 {n : Int} (h : Ev ta σ G M M1 (pI n)) (hn : -(2 ^ 62) ≤ n ∧ n < 2 ^ 62) : Iw (iRng1 (tCons ta tNil)) σ G M M1 ((List.range n.toNat).map fun j => pI (j : Nat)) := fun G1 H a A R k => h G1 H a A _ fun v G2 H2 e2 A2 hv => by
  cases (show v = .int n from hv)
  refine ⟨n, rfl, hn.1, hn.2, ?_⟩
  refine k _ _ _ G2 H2 e2 A2 (by rw [List.length_map, List.length_range]; exact walk_rgY) (fun _ _ _ _ _ => trivial) fun i x G3 N H3 H4 e3 A3 y => ?_
  obtain ⟨hi, rfl, rfl⟩ := y
  refine ⟨pI (i : Nat), G3, ?_, Same.refl _, A3, ?_⟩
  · rw [List.getElem?_map, List.getElem?_range hi]
    rfl
  · show V.int (0 + i) = .int i
    rw [Int.zero_add]
theorem iw_rng2 {lo n : Int} (h : Ev ta σ G M M1 (pI lo)) (h' : Ev tb σ G M1 M2 (pI n)) (hn : -(2 ^ 62) ≤ lo ∧ lo < 2 ^ 62 ∧ -(2 ^ 62) ≤ n ∧ n < 2 ^ 62) : Iw (iRng2 (tCons ta (tCons tb tNil))) σ G M M2 ((List.range (n - lo).toNat).map fun j => pI (lo + (j : Nat))) := fun G1 H a A R k => h G1 H a A _ fun v G2 H2 e2 A2 hv => h' G2 H2 (a.trans e2) A2 _ fun w G3 H3 e3 A3 hw => by
  cases (show v = .int lo from hv); cases (show w = .int n from hw)
  refine ⟨lo, n, rfl, hn, ?_⟩
  refine k _ _ _ G3 H3 (e2.trans e3) A3 (by rw [List.length_map, List.length_range]; exact walk_rgY) (fun _ _ _ _ _ => trivial) fun i x G3 N H3 H4 e3 A3 y => ?_
  obtain ⟨hi, rfl, rfl⟩ := y
  refine ⟨pI (lo + (i : Nat)), G3, ?_, Same.refl _, A3, rfl⟩
  rw [List.getElem?_map, List.getElem?_range hi]
  rfl
theorem walk_zipT {a b : Addr} {xs ys : List V} {n : Nat} (hn : n = xs.length) (hl : xs.length = ys.length) : Walk (RZ.ItzT K a b) n (fun H => SqT K H a xs ∧ SqT K H b ys) (YPair (fun i => xs[i]?) (fun i => ys[i]?)) := by
  subst hn
  refine ⟨fun i _ hi q => ⟨xs, ys, xs[i], ys[i]'(by omega), q.1, q.2, List.getElem?_eq_getElem hi, List.getElem?_eq_getElem (by omega)⟩, fun _ q => ⟨xs, ys, q.1, q.2, .inl (Nat.le_refl _)⟩, fun i H v H' _ q y => ?_⟩
  obtain ⟨T, x, z, h1, h2, h3, h4, h5⟩ := y
  exact ⟨T, x, z, h1, h2, h3, h4 xs q.1, h5 ys q.2⟩
/-- zip of two tuples -/
theorem iw_zipT (h : EvA tr σ G M M1 [pT K ps, pT K qs]) (hl : ps.length = qs.length) : Iw (RZ.iZipA K tr) σ G M M1 ((ps.zip qs).map fun q => pT K [q.1, q.2]) := fun G1 H a A R k => h G1 H a A _ fun vv G2 H2 e2 A2 hvv => by
    obtain ⟨v, w, rfl, hv1, hv2⟩ := als2 hvv
    obtain ⟨l, us, hv, hq, hal⟩ := hv1
    obtain ⟨l2, ws, hw, hq2, hal2⟩ := hv2
    have e : us.length = ws.length := by rw [hal.len, hal2.len, hl]
    have el : ((ps.zip qs).map fun q => pT K [q.1, q.2]).length = us.length := by rw [List.length_map, List.length_zip, ← hl, Nat.min_self, hal.len]
    have r := k (RZ.ItzT K l l2) _ _ G2 H2 e2 A2 (walk_zipT el e) (fun G3 N H3 e3 A3 => ⟨same_sqT (e3.trans A3.g) hq, same_sqT (e3.trans A3.g) hq2⟩) (fun i x G3 N H3 H4 e3 A3 y => by
      obtain ⟨T, x1, x2, hx, hT, hH, h1, h2⟩ := y
      obtain ⟨p, hp, hpx⟩ := hal.getV h1
      obtain ⟨q, hq', hqx⟩ := hal2.getV h2
      obtain ⟨e4, A4⟩ := A3.newG (.tup [x1, x2]) hT
      subst hx hH
      refine ⟨pT K [p, q], _, ?_, e4, A4, ⟨T, [x1, x2], rfl, SqT.of (upd_same ..), Als.cons (p.m (e3.trans e4) hpx) (Als.cons (q.m (e3.trans e4) hqx) Als.nil)⟩⟩
      rw [List.getElem?_map]
      have : (ps.zip qs)[i]? = some (p, q) := by rw [List.getElem?_zip_eq_some]; exact ⟨hp, hq'⟩
      rw [this]
      rfl)
    exact ⟨l, l2, us, ws, by rw [hv, hw], .inr ⟨same_sqT A2.g hq, same_sqT A2.g hq2, r⟩⟩
/-! loops -/
theorem s_forW (I : Nat → L2.St → Hp → Cells → Prop) (h : Iw it σ G M M1 ps) (h0 : ∀ G1, Same G G1 → I 0 σ G1 M1)
    (hs : ∀ j p σ' Gi G' M', Same G Gi → Same Gi G' → ps[j]? = some p → I j σ' Gi M' → Ag g p σ' G' fun σ2 => Sm tu σ2 G' M' { nx := I (j + 1), rt := O.rt, bk := O.nx, ct := I (j + 1) })
    (hd : ∀ σ' G' M', Same G G' → I ps.length σ' G' M' → O.nx σ' G' M') : Sm (tFor it g tu) σ G M O := fun G1 H a A D d => h G1 H a A _ fun J Gd Y G2 H2 e2 A2 w hG hY => by
  refine for_it w (fun j σ' H' => ∃ G' M', Same G2 G' ∧ At G' M' H' ∧ I j σ' G' M') ⟨G2, M1, Same.refl _, A2, h0 G2 (a.trans e2)⟩ (fun j σ' H' _ ⟨G', M', e', A', _⟩ => hG G' M' H' e' A') ?_ ?_
  · rintro j x σ' H3 H4 _ ⟨G', M', e', A', hI⟩ y
    obtain ⟨p, G4, hp, e4, A4, hpx⟩ := hY j x G' M' H3 H4 e' A' y
    refine hs j p σ' G' G4 M' ((a.trans e2).trans e') e4 hp hI x H4 A4.g hpx _ fun σ2 s => s G4 H4 (Same.refl _) A4 _ ?_
    exact ⟨fun σ3 G3 M3 H3 e3 A3 r => ⟨G3, M3, (e'.trans e4).trans e3, A3, r⟩, fun v G3 M3 H3 e3 A3 r => d.rt v G3 M3 H3 (((e2.trans e').trans e4).trans e3) A3 r, fun σ3 G3 M3 H3 e3 A3 r => d.nx σ3 G3 M3 H3 (((e2.trans e').trans e4).trans e3) A3 r,
      fun σ3 G3 M3 H3 e3 A3 r => ⟨G3, M3, (e'.trans e4).trans e3, A3, r⟩⟩
  · rintro σ' H' ⟨G', M', e', A', hI⟩
    exact d.nx σ' G' M' H' (e2.trans e') A' (hd σ' G' M' ((a.trans e2).trans e') hI)
theorem q_forW (I : Nat → L2.St → Hp → Cells → Prop) (h : Iw it σ G M M1 ps) (h0 : ∀ G1, Same G G1 → I 0 σ G1 M1)
    (hs : ∀ j p σ' Gi G' M', Same G Gi → Same Gi G' → ps[j]? = some p → I j σ' Gi M' → Ag g p σ' G' fun σ2 => Sm tu σ2 G' M' { nx := I (j + 1), rt := O.rt, bk := fun σ3 G3 M3 => Sm tz σ3 G3 M3 O, ct := I (j + 1) })
    (hd : ∀ σ' G' M', Same G G' → I ps.length σ' G' M' → Sm tz σ' G' M' O) : Sm (tSeq (tFor it g tu) tz) σ G M O := Sm.seq (s_forW I h h0 hs hd)
/-! comprehensions -/
theorem eo_lcCW (C : Nat → Cells) (f : Nat → Bool) (gm : Nat → Pr) (acc : Nat → List Pr) (hacc0 : acc 0 = []) (haccT : ∀ j, f j = true → acc (j + 1) = acc j ++ [gm j]) (haccF : ∀ j, f j = false → acc (j + 1) = acc j) (hal : ∀ j, j ≤ ps.length → (acc j).length < 100000)
    (h : Iw it σ G M (C 0) ps)
    (hs : ∀ j p G', Same G G' → ps[j]? = some p → Ag g p (wipe σ vs) G' fun σ2 => wipe σ2 vs = wipe σ vs ∧ ∀ Dl c, ∃ C', EvT tt σ2 G' ((Dl, c) :: C j) ((Dl, c) :: C') (f j) ∧ (f j = true → Ev te σ2 G' ((Dl, c) :: C') ((Dl, c) :: C (j + 1)) (gm j)) ∧ (f j = false → C' = C (j + 1))) :
    EvO (tLc it g tt te vs) σ G M (C ps.length) (acc ps.length) := fun G1 H a A Q k => h G1 H a A _ fun J Gd Y G2 H2 e2 A2 w hG hY => by
  refine fun Dl hD => ?_
  have A3 : At G2 ((Dl, .lst (acc 0)) :: C 0) (upd H2 Dl (.lst [])) := by rw [hacc0]; exact A2.newL hD (Als.nil)
  refine lc_it w (Lc G2 C acc Dl) ⟨G2, Same.refl _, A3⟩ (fun j H' _ ⟨G', e', A'⟩ => hG G' _ H' e' A') ?_ ?_
  · rintro j x H3 H4 hjl ⟨G', e', A'⟩ y
    obtain ⟨p, G4, hp, e4, A4, hpx⟩ := hY j x G' _ H3 H4 e' A' y
    refine hs j p G4 (((a.trans e2).trans e').trans e4) hp x H4 A4.g hpx _ fun σ2 ⟨hw, s⟩ => ⟨hw, ?_⟩
    obtain ⟨C', h1, h2, h3⟩ := s Dl (.lst (acc j))
    refine h1 G4 H4 (Same.refl _) A4 _ fun G3 H3 e3 A3 => ?_
    cases hf : f j with
    | true =>
      rw [if_pos rfl]
      refine h2 hf G3 H3 e3 A3 _ fun w G5 H5 e5 A5 hw2 => ?_
      obtain ⟨ws, hws, hal4⟩ := A5.head
      refine ⟨ws, hws, by rw [hal4.len]; exact Nat.lt_of_lt_of_le (hal j (Nat.le_of_lt hjl)) (by decide), G5, ((e'.trans e4).trans e3).trans e5, ?_⟩
      rw [haccT j hf]
      exact A5.putL (hal4.app (qs := [gm j]) (ws := [w]) (Als.cons hw2 Als.nil))
    | false =>
      rw [if_neg Bool.false_ne_true]
      refine ⟨G3, (e'.trans e4).trans e3, ?_⟩
      rw [haccF j hf, ← h3 hf]
      exact A3
  · rintro H' ⟨G', e', A'⟩
    exact k Dl G' H' (e2.trans e') A'
theorem eo_lcW {α : Type} {F : α → Pr} (xs : List α) (f : α → Bool) (gm : α → Pr) (h : Iw it σ G M M1 (xs.map F)) (hl : xs.length < 100000)
    (hs : ∀ (j : Nat) x G', Same G G' → xs[j]? = some x → Ag g (F x) (wipe σ vs) G' fun σ2 => wipe σ2 vs = wipe σ vs ∧ ∀ Dl c, EvT tt σ2 G' ((Dl, c) :: M1) ((Dl, c) :: M1) (f x) ∧ (f x = true → Ev te σ2 G' ((Dl, c) :: M1) ((Dl, c) :: M1) (gm x))) :
    EvO (tLc it g tt te vs) σ G M M1 (sel f gm xs) := by
  have q := eo_lcCW (g := g) (tt := tt) (te := te) (vs := vs) (ps := xs.map F) (fun _ => M1) (fun j => match xs[j]? with | some x => f x | none => false) (fun j => match xs[j]? with | some x => gm x | none => pN) (fun j => sel f gm (xs.take j)) rfl
    (fun j hf => by
      cases e : xs[j]? with
      | none => rw [e] at hf; cases hf
      | some a =>
        rw [e] at hf
        exact sel_T e hf) (fun j hf => by
      cases e : xs[j]? with
      | none =>
        have : xs.length ≤ j := List.getElem?_eq_none_iff.mp e
        rw [List.take_of_length_le this, List.take_of_length_le (Nat.le_succ_of_le this)]
      | some a =>
        rw [e] at hf
        exact sel_F e hf) (fun j _ => Nat.lt_of_le_of_lt (sel_len f gm xs j) hl) h ?_
  · rw [List.length_map, List.take_length] at q
    exact q
  · intro j p G' e hp
    rw [List.getElem?_map] at hp
    cases e1 : xs[j]? with
    | none => rw [e1] at hp; cases hp
    | some a =>
      rw [e1] at hp
      cases (show F a = p from Option.some.inj hp)
      intro v H' eh hv Q k
      refine hs j a G' e e1 v H' eh hv Q fun σ2 ⟨hw, s⟩ => k σ2 ⟨hw, fun Dl c => ⟨M1, ?_, ?_, fun _ => rfl⟩⟩
      · have := (s Dl c).1
        simp only [e1]
        exact this
      · intro hf
        simp only [e1] at hf ⊢
        exact (s Dl c).2 hf
theorem eo_lcAW {α : Type} {F : α → Pr} (xs : List α) (gm : α → Pr) (h : Iw it σ G M M1 (xs.map F)) (hl : xs.length < 100000)
    (hs : ∀ (j : Nat) x G', Same G G' → xs[j]? = some x → Ag g (F x) (wipe σ vs) G' fun σ2 => wipe σ2 vs = wipe σ vs ∧ ∀ Dl c, Ev te σ2 G' ((Dl, c) :: M1) ((Dl, c) :: M1) (gm x)) :
    EvO (tLc it g tYes te vs) σ G M M1 (xs.map gm) := by
  have q := eo_lcW (g := g) (tt := tYes) (te := te) (vs := vs) xs (fun _ => true) gm h hl fun j x G' e hx v H eh hv Q k => hs j x G' e hx v H eh hv Q fun σ2 ⟨hw, s⟩ => k σ2 ⟨hw, fun Dl c => ⟨et_yes, fun _ => s Dl c⟩⟩
  rw [sel_all] at q
  exact q
end
end Sg
/-! rules with the fragment told from outside: for use within comprehensions -/
namespace Sg
open PySem PySem.Spec L2
section
variable {X : Cx} {K : PySem.W.Frag}
theorem ix_tupK (h : X.K = K) : IxR X (rIxT K) := h ▸ ix_tup
theorem ix_listK (h : X.K = K) : IxR X (rIxL K) := h ▸ ix_list
theorem sl_listK (h : X.K = K) : SlR X (rSlL K) := h ▸ sl_list
theorem call_lenK (h : X.K = K) : CallR X (.builtin "len") (rcLen K) := h ▸ call_len
theorem call_isiK (h : X.K = K) : CallR X (.builtin "isinstance") (rIsi K) := h ▸ call_isi
theorem call_list_ofK (h : X.K = K) : CallR X (.type "list") (rcList K) := h ▸ call_list_of
theorem call_tuple_ofK (h : X.K = K) : CallR X (.type "tuple") (fun xs H Q => ∃ p ys, xs = [.ref p] ∧ ((SqL K H p ys ∧ ∀ l, H l = none → Q (.ref l) (upd H l (.tup ys))) ∨ (SqT K H p ys ∧ Q (.ref p) H))) := h ▸ call_tuple_of
theorem cr_allK (h : X.K = K) (hc : X.calm = true) : CallR X (.builtin "all") (rAll K) := h ▸ cr_all hc
theorem cr_anyK (h : X.K = K) (hc : X.calm = true) : CallR X (.builtin "any") (rAny K) := h ▸ cr_any hc
theorem cr_sumK (h : X.K = K) (hc : X.calm = true) : CallR X (.builtin "sum") (rSum K) := h ▸ cr_sum hc
theorem op_in_seqK (h : X.K = K) : OpR X (compareOp .In) (rIn K false) := h ▸ op_in_seq
theorem op_notIn_seqK (h : X.K = K) : OpR X (compareOp .NotIn) (rIn K true) := h ▸ op_notIn_seq
theorem op_eqDK (h : X.K = K) (hu : X.A.units + 64 < cLine) : OpR X (compareOp .Eq) (rEqD K) := h ▸ op_eqD hu
theorem op_neDK (h : X.K = K) (hu : X.A.units + 64 < cLine) : OpR X (compareOp .NotEq) (rNeD K) := h ▸ op_neD hu
theorem pe_fldK {e : Expr} {f : Str} {pos : Pos} {ta : TE} (h : X.K = K) (he : PE X e ta) (hb : attributeBase e f X.env (eval e X.env) = eval e X.env) : PE X (.Attribute e f pos) (tFld K ta f) := h ▸ pe_fld he hb
theorem pi_listK {tg l : Expr} {tl : TE} (h : X.K = K) (hl : PE X l tl) : PI X tg l (iList K tl) := h ▸ pi_list hl
theorem pi_tupK {tg l : Expr} {tl : TE} (h : X.K = K) (hl : PE X l tl) : PI X tg l (iTup K tl) := h ▸ pi_tup hl
theorem pe_joinK {o e : Expr} {to te : TE} {apos pos : Pos} (h : X.K = K) (ho : PE X o to) (he : PE X e te) (hs : starEach [e] X.env = [(false, eval e X.env)] := by rfl) (hbase : attributeBase o "join" X.env (eval o X.env) = eval o X.env := by rfl) (hline : (apos.endLine == pos.line) = true := by rfl) :
    PE X (.Call (.Attribute o "join" apos) [e] [] pos) (tM1 (rcJoin K) to te) := h ▸ pe_join ho he hs hbase hline
theorem pt_truthK {a : Expr} {ta : TE} (h : X.K = K) (ha : PE X a ta) (he : ∀ whole, isTrue a X.env whole = (do let v ← whole; standAt a.pos; holding [v] (truthy v))) :
    PT X a (fun σ H Q => ta σ H fun x H' => ∃ k, TruV K x H' k ∧ Q k H') := h ▸ pt_truth ha he
theorem pe_orTK {a b : Expr} {rest : List Expr} {ta tb : TE} {pos : Pos} (h : X.K = K) (ha : PE X a ta) (hb : PE X (.BoolOp .Or (b :: rest) pos) tb) : PE X (.BoolOp .Or (a :: b :: rest) pos) (tOrT K ta tb) := h ▸ pe_orT ha hb
end
end Sg
/-! more rules: chains of three, text times int, displays read at once, targets that change cells -/
namespace Sg
open PySem PySem.Spec L2 PyProof.Rows
section
variable {X : Cx} {a b c d : Expr} {ta tb tc td : TE} {pos : Pos}
/-- a op1 b op2 c op3 d -/
def tChain3 (r r' r'' : R2) (ta tb tc td : TE) : TE := fun σ H Q => ta σ H fun x H1 => tb σ H1 fun y H2 => r x y H2 fun z H3 => ∃ k, z = .bl k ∧
  (if k = true then tc σ H3 fun y2 H4 => r' y y2 H4 fun z2 H5 => ∃ k2, z2 = .bl k2 ∧ (if k2 = true then td σ H5 fun w' H6 => r'' y2 w' H6 Q else Q (.bl false) H5) else Q (.bl false) H3)
theorem pt_chain3 {o1 o2 o3 : CmpOp} {r r' r'' : R2} (h1 : OpR X (compareOp o1) r) (h2 : OpR X (compareOp o2) r') (h3 : OpR X (compareOp o3) r'') (ha : PE X a ta) (hb : PE X b tb) (hc : PE X c tc) (hd : PE X d td)
    (hm : lastMarks [o1, o2, o3] [b, c, d] = false := by with_unfolding_all rfl) : PT X (.Compare a [o1, o2, o3] [b, c, d] pos) (tTest (tChain3 r r' r'' ta tb tc td)) := by
  refine ⟨fun pins s σ H Q I h => ?_⟩
  refine isTrue_chain (thn (ha.run pins s σ H _ I h) fun v s1 ⟨x, H1, I1, r1, q1⟩ => test_link (thn (hb.run pins s1 σ H1 _ I1 q1) fun u s2 ⟨y, H2, I2, r2, q2⟩ =>
    thn (h1 pins s2 σ H2 x y v u _ I2 r1 r2 q2) fun e s3 ⟨z, H3, I3, r3, k, ek, q3⟩ => ?_)) hm
  subst ek
  cases r3
  refine wpAny_truthy_bool ?_
  cases k with
  | false =>
    obtain ⟨k', e', q'⟩ := q3
    cases e'
    exact ite_ff ⟨H3, I3, q'⟩
  | true =>
    refine ite_tt (test_link (thn (hc.run pins s3 σ H3 _ I3 q3) fun u4 s4 ⟨y2, H4, I4, r4, q4⟩ => thn (h2 pins s4 σ H4 y y2 u u4 _ I4 r2 r4 q4) fun e5 s5 ⟨z5, H5, I5, r5, k5, ek5, q5⟩ => ?_))
    subst ek5
    cases r5
    refine wpAny_truthy_bool ?_
    cases k5 with
    | false =>
      obtain ⟨k', e', q'⟩ := q5
      cases e'
      exact ite_ff ⟨H5, I5, q'⟩
    | true =>
      refine ite_tt (test_last (thn (hd.run pins s5 σ H5 _ I5 q5) fun u6 s6 ⟨y6, H6, I6, r6, q6⟩ => thn (h3 pins s6 σ H6 y2 y6 u4 u6 _ I6 r4 r6 q6) fun e7 s7 ⟨z7, H7, I7, r7, k7, ek7, q7⟩ => ?_))
      subst ek7
      cases r7
      exact wpAny_truthy_bool ⟨H7, I7, q7⟩
/-- text times int -/
theorem op_mulS : OpR X (binaryOp .Mult) (fun x y H Q => ∃ s n, x = .str s ∧ y = .int n ∧ MulOk s n ∧ Q (.str (Txt.mul s n)) H) := by
  intro pins s σ H x y v u Q I rx ry h
  obtain ⟨z, n, rfl, rfl, hz, q⟩ := h
  obtain ⟨t, rfl⟩ := rx
  obtain ⟨t2, rfl⟩ := ry
  exact SB.mul hz fun t' k => ⟨.str (Txt.mul z n), H, I.tok _, ⟨t', rfl⟩, q⟩
end
section
variable {K : PySem.W.Frag} {σ : L2.St} {G G0 : Hp} {M M1 M2 M3 M4 N : Cells} {φ ψ : Pr} {ps qs : List Pr} {ta tb tc td te tx tl : TE} {t u tt : TT} {x y z : V} {i : Nat} {O : Out} {tu tw tz : TS} {g : TG} {gs : TGs} {tr : TA} {vs : List Nat}
theorem ev_chain3 {r r' r'' : R2} {p q k : Int} {n : Int} {f1 f2 f3 : Int → Int → Bool} (ha : Ev ta σ G M M1 (pI n)) (hb : Ev tb σ G M1 M2 (pI p)) (hc : Ev tc σ G M2 M2 (pI q)) (hd : Ev td σ G M2 M2 (pI k))
    (h1 : ∀ (Q : VK) H, Q (.bl (f1 n p)) H → r (.int n) (.int p) H Q) (h2 : ∀ (Q : VK) H, Q (.bl (f2 p q)) H → r' (.int p) (.int q) H Q) (h3 : ∀ (Q : VK) H, Q (.bl (f3 q k)) H → r'' (.int q) (.int k) H Q) :
    Ev (tChain3 r r' r'' ta tb tc td) σ G M M2 (pB (f1 n p && (f2 p q && f3 q k))) := fun G1 H a A Q K0 => ha G1 H a A _ fun v G2 H2 e2 A2 hv => hb G2 H2 (a.trans e2) A2 _ fun w G3 H3 e3 A3 hw => by
  cases (show v = .int n from hv); cases (show w = .int p from hw)
  refine h1 _ _ ⟨_, rfl, ?_⟩
  cases e1 : f1 n p with
  | false =>
    rw [if_neg Bool.false_ne_true]
    rw [e1] at K0
    exact K0 _ G3 H3 (e2.trans e3) A3 rfl
  | true =>
    rw [if_pos rfl]
    rw [e1] at K0
    refine hc G3 H3 ((a.trans e2).trans e3) A3 _ fun v4 G4 H4 e4 A4 hv4 => ?_
    cases (show v4 = .int q from hv4)
    refine h2 _ _ ⟨_, rfl, ?_⟩
    cases e5 : f2 p q with
    | false =>
      rw [if_neg Bool.false_ne_true]
      rw [e5] at K0
      exact K0 _ G4 H4 ((e2.trans e3).trans e4) A4 rfl
    | true =>
      rw [if_pos rfl]
      rw [e5] at K0
      refine hd G4 H4 (((a.trans e2).trans e3).trans e4) A4 _ fun v5 G5 H5 e6 A5 hv5 => ?_
      cases (show v5 = .int k from hv5)
      exact h3 _ _ (K0 _ G5 H5 (((e2.trans e3).trans e4).trans e6) A5 rfl)
theorem ev_mulS {s : Str} {n : Int} (ha : Ev ta σ G M M1 (pS s)) (hb : Ev tb σ G M1 M2 (pI n)) (hz : MulOk s n) : Ev (tOp (fun x y H Q => ∃ s n, x = .str s ∧ y = .int n ∧ MulOk s n ∧ Q (.str (Txt.mul s n)) H) ta tb) σ G M M2 (pS (Txt.mul s n)) := ev_rv ha hb fun Q H q => ⟨s, n, rfl, rfl, hz, q⟩
/-! cells in another order -/
theorem Ev.sw {x y y' : Addr × CD} (h : Ev te σ G (y :: x :: M) (y' :: x :: M) φ) : Ev te σ G (x :: y :: M) (x :: y' :: M) φ := (h.perm (List.Perm.swap ..)).permR (List.Perm.swap ..)
theorem EvO.perm (p : M.Perm N) (h : EvO te σ G N M1 ps) : EvO te σ G M M1 ps := fun G1 H a A Q k => h G1 H a (A.perm p) Q k
theorem EvA.perm (p : M.Perm N) (h : EvA tr σ G N M1 ps) : EvA tr σ G M M1 ps := fun G1 H a A Q k => h G1 H a (A.perm p) Q k
theorem EvA.permR (p : M1.Perm N) (h : EvA tr σ G M M1 ps) : EvA tr σ G M N ps := fun G1 H a A Q k => h G1 H a A Q fun v G' H' e A' => k v G' H' e (A'.perm p)
/-! targets that may change cells -/
def AgC (g : TG) (φ : Pr) (σ : L2.St) (G : Hp) (M : Cells) (B : L2.St → Hp → Cells → Prop) : Prop := ∀ v G1 H, Same G G1 → At G1 M H → φ.h v G1 → ∀ Q : L2.St → Hp → Prop, (∀ σ' G' M' H', Same G1 G' → At G' M' H' → B σ' G' M' → Q σ' H') → g v σ H Q
def AgsC (g : TGs) (ps : List Pr) (σ : L2.St) (G : Hp) (M : Cells) (B : L2.St → Hp → Cells → Prop) : Prop := ∀ vs G1 H, Same G G1 → At G1 M H → Als G1 ps vs → ∀ Q : L2.St → Hp → Prop, (∀ σ' G' M' H', Same G1 G' → At G' M' H' → B σ' G' M' → Q σ' H') → g vs σ H Q
theorem agc_name {B : L2.St → Hp → Cells → Prop} (h : ∀ v G1, Same G G1 → φ.h v G1 → B (σ.set i (some v)) G1 M) : AgC (gName i) φ σ G M B := fun v G1 H e A hv Q k => k _ G1 M H (Same.refl _) A (h v G1 e hv)
theorem agc_sub {B : L2.St → Hp → Cells → Prop} {p : Addr} {j : Int} {n : Nat} (ho : Ev ta σ G M M1 (pV (.ref p))) (hi : Ev tb σ G M1 ((p, .lst ps) :: M2) (pI j)) (hj : ixN ps.length j = some n) (h : ∀ G1, Same G G1 → B σ G1 ((p, .lst (ps.set n φ)) :: M2)) :
    AgC (gSub ta tb rSetL) φ σ G M B := fun v G1 H e A hv Q k => ho G1 H e A _ fun w G2 H2 e2 A2 hw => hi G2 H2 (e.trans e2) A2 _ fun w2 G3 H3 e3 A3 hw2 => by
  cases (show w = .ref p from hw); cases (show w2 = .int j from hw2)
  obtain ⟨us, h1, hal⟩ := A3.head
  refine ⟨p, us, j, n, rfl, rfl, h1, by rw [hal.len]; exact hj, ?_⟩
  exact k σ G3 _ _ (e2.trans e3) (A3.putL (hal.set (φ.m (e2.trans e3) hv) n)) (h G3 ((e.trans e2).trans e3))
theorem agsc_nil {B : L2.St → Hp → Cells → Prop} (h : ∀ G1, Same G G1 → B σ G1 M) : AgsC gNil [] σ G M B := fun vs G1 H e A hv Q k => by
  cases vs with
  | nil => exact ⟨rfl, k σ G1 M H (Same.refl _) A (h G1 e)⟩
  | cons _ _ => exact hv.elim
theorem agsc_cons {B : L2.St → Hp → Cells → Prop} (h : AgC g φ σ G M fun σ1 G1 M1 => AgsC gs ps σ1 G1 M1 B) : AgsC (gCons g gs) (φ :: ps) σ G M B := fun vs G1 H e A hv Q k => by
  cases vs with
  | nil => exact hv.elim
  | cons v vs => exact ⟨v, vs, rfl, h v G1 H e A hv.1 _ fun σ1 G2 M2 H2 e2 A2 h1 => h1 vs G2 H2 (Same.refl _) A2 (hv.2.m e2) Q fun σ' G' M' H' e' => k σ' G' M' H' (e2.trans e')⟩
theorem agc_tup {B : L2.St → Hp → Cells → Prop} {n : Nat} (h : AgsC gs ps σ G M B) (hn : ps.length = n := by rfl) : AgC (gTup K n gs) (pT K ps) σ G M B := fun v G1 H e A ⟨a, vs, h1, h2, h3⟩ Q k =>
  ⟨a, vs, h1, same_sqT A.g h2, h3.len.trans hn, h vs G1 H e A h3 Q k⟩
theorem agc_unl {B : L2.St → Hp → Cells → Prop} {n : Nat} (h : AgsC gs ps σ G M B) (hn : ps.length = n := by rfl) : AgC (gUnl K n gs) (pL ps) σ G M B := fun v G1 H e A ⟨a, vs, h1, h2, h3⟩ Q k =>
  ⟨a, vs, h1, SqL.of (A.g _ _ h2), h3.len.trans hn, h vs G1 H e A h3 Q k⟩
theorem ag_unl {B : L2.St → Prop} {n : Nat} (h : Ags gs ps σ G B) (hn : ps.length = n := by rfl) : Ag (gUnl K n gs) (pL ps) σ G B := fun v H e ⟨a, vs, h1, h2, h3⟩ Q k =>
  ⟨a, vs, h1, SqL.of (e _ _ h2), h3.len.trans hn, h vs H e h3 Q k⟩
theorem s_asgC (h : Ev te σ G M M1 φ) (k : ∀ G1, Same G G1 → AgC g φ σ G1 M1 O.nx) : Sm (tAsg te g) σ G M O := fun G1 H a A D d =>
  h G1 H a A _ fun v G2 H2 e2 A2 hv => k G2 (a.trans e2) v G2 H2 (Same.refl _) A2 hv _ fun σ' G' M' H' e' A' s => d.nx σ' G' M' H' (e2.trans e') A' s
/-! pop(i), insert(i, x) -/
theorem s_popA {p : Addr} {j : Int} {n : Nat} (ho : Ev ta σ G M M1 (pV (.ref p))) {qs : List Pr} (hm : (p, CD.lst qs) ∈ M1) (hi : Ev tb σ G M1 ((p, .lst ps) :: M2) (pI j)) (hj : seqIndex? j ps.length = some n) (hn : n < ps.length) (h1 : -(2 ^ 63) ≤ j ∧ j < 2 ^ 63) (k : ∀ G1, Same G G1 → O.nx σ G1 ((p, .lst (ps.eraseIdx n)) :: M2)) :
    Sm (tDrop (tBM K "list" rPopAt ta (tCons tb tNil))) σ G M O := fun G1 H a A D d => ho G1 H a A _ fun w G2 H2 e2 A2 hw => by
  cases (show w = .ref p from hw)
  obtain ⟨us, hu, _⟩ := A2.lst hm
  refine ⟨.inl ⟨rfl, us, SqL.of hu⟩, hi G2 H2 (a.trans e2) A2 _ fun v G3 H3 e3 A3 hv => ?_⟩
  cases (show v = .int j from hv)
  obtain ⟨vs, h2, hal⟩ := A3.head
  have hn2 : n < vs.length := by rw [hal.len]; exact hn
  refine ⟨p, vs, j, n, vs[n], rfl, rfl, h2, h1.1, h1.2, by rw [hal.len]; exact hj, List.getElem?_eq_getElem hn2, ?_⟩
  have hal2 : Als G3 (ps.eraseIdx n) (vs.eraseIdx n) := by
    rw [List.eraseIdx_eq_take_drop_succ, List.eraseIdx_eq_take_drop_succ]
    exact (hal.take n).app (hal.drop (n + 1))
  exact d.nx σ G3 _ _ (e2.trans e3) (A3.putL hal2) (k G3 ((a.trans e2).trans e3))
abbrev rInsert : V → List V → Hp → VK → Prop := fun x vs H Q => ∃ (l : Addr) (xs : List V) (i : Int) (y : V), x = .ref l ∧ vs = [.int i, y] ∧ H l = some (.lst xs) ∧ xs.length < sizeLine ∧ 0 ≤ i ∧ i < 2 ^ 63 ∧ Q .non (upd H l (.lst (xs.take i.toNat ++ [y] ++ xs.drop i.toNat)))
theorem s_ins {p : Addr} {j : Int} (ho : Ev ta σ G M M1 (pV (.ref p))) {qs : List Pr} (hm : (p, CD.lst qs) ∈ M1) (ha : EvA tr σ G M1 ((p, .lst ps) :: M2) [pI j, φ]) (hz : ps.length < 100000) (h1 : 0 ≤ j ∧ j < 2 ^ 63) (k : ∀ G1, Same G G1 → O.nx σ G1 ((p, .lst (ps.take j.toNat ++ [φ] ++ ps.drop j.toNat)) :: M2)) :
    Sm (tDrop (tBM K "list" rInsert ta tr)) σ G M O := fun G1 H a A D d => ho G1 H a A _ fun w G2 H2 e2 A2 hw => by
  cases (show w = .ref p from hw)
  obtain ⟨us, hu, _⟩ := A2.lst hm
  refine ⟨.inl ⟨rfl, us, SqL.of hu⟩, ha G2 H2 (a.trans e2) A2 _ fun ws G3 H3 e3 A3 hws => ?_⟩
  obtain ⟨v1, v2, rfl, hv1, hv2⟩ := als2 hws
  cases (show v1 = .int j from hv1)
  obtain ⟨vs, h2, hal⟩ := A3.head
  refine ⟨p, vs, j, v2, rfl, rfl, h2, by rw [hal.len]; exact Nat.lt_of_lt_of_le hz (by decide), h1.1, h1.2, ?_⟩
  exact d.nx σ G3 _ _ (e2.trans e3) (A3.putL (((hal.take _).app (Als.cons hv2 Als.nil)).app (hal.drop _))) (k G3 ((a.trans e2).trans e3))
/-! {k: v, ..}.get(x, y), the dict read at once -/
theorem tpairs_c {σ : L2.St} {H : Hp} {Q : List (V × V) → Hp → Prop} : ∀ {kvs : List (V × V)}, Q kvs H → tPairs (kvs.map fun kv => (tC kv.1, tC kv.2)) σ H Q
  | [], q => q
  | (k, v) :: r, q => tpairs_c (Q := fun ps H3 => Q ((k, v) :: ps) H3) q
theorem ev_dgetC {kvs : List (Key × V)} {k : Key} (hl : kvs.length ≤ 15) (hy : Ev tb σ G M M1 (pV (kV k))) (hz : Ev tx σ G M1 M2 (pV z)) : Ev (tDGet2 (tDisp (kvs.map fun kv => (tC (kV kv.1), tC kv.2))) tb tx) σ G M M2 (pV ((valV (mergeK [] kvs) k).getD z)) := fun G1 H a A Q K0 => by
  intro p hp
  have e : (kvs.map fun kv => (tC (kV kv.1), tC kv.2)) = (kvs.map fun kv => (kV kv.1, kv.2)).map fun kv => (tC kv.1, tC kv.2) := by rw [List.map_map]; rfl
  rw [e]
  refine tpairs_c ⟨upd_same, kvs, rfl, hl, ?_⟩
  have hu : upd (upd H p (.dK [])) p (.dK (mergeK [] kvs)) = upd H p (.dK (mergeK [] kvs)) := by
    funext b
    unfold upd
    split <;> rfl
  rw [hu]
  obtain ⟨e2, A2⟩ := A.newG (.dK (mergeK [] kvs)) hp
  have hd : ∀ {G3 H3 N}, Same (upd G1 p (.dK (mergeK [] kvs))) G3 → At G3 N H3 → H3 p = some (.dK (mergeK [] kvs)) := fun e3 A3 => A3.g _ _ (e3 _ _ upd_same)
  refine ⟨p, rfl, .inl ⟨_, .inl (hd (Same.refl _) A2)⟩, hy _ _ (a.trans e2) A2 _ fun v G3 H3 e3 A3 hv => hz G3 H3 ((a.trans e2).trans e3) A3 _ fun w G4 H4 e4 A4 hw => ?_⟩
  cases (show v = kV k from hv); cases (show w = z from hw)
  exact ⟨_, DGet.k (hd (e3.trans e4) A4), K0 _ G4 H4 ((e2.trans e3).trans e4) A4 rfl⟩
end
end Sg
/-! promises whose outcome is one of many -/
namespace Sg
open PySem PySem.Spec L2
section
variable {K : PySem.W.Frag} {σ : L2.St} {G G0 : Hp} {M M1 M2 N : Cells} {φ ψ : Pr} {ps qs : List Pr} {te : TE} {O : Out} {tz : TS} {tr : TA} {E : XK} {α ι : Type} {pre : α → Prop} {P : α → List Pr} {Ci : α → Cells} {post : α → ι → Prop} {Co : α → ι → Cells} {R : α → ι → Pr} {a : α} {j : Nat}
def SpX {α ι : Type} (pre : α → Prop) (P : α → List Pr) (Ci : α → Cells) (post : α → ι → Prop) (Co : α → ι → Cells) (R : α → ι → Pr) : Sp := fun vs H Q _ =>
  ∃ a G M, pre a ∧ Als G (P a) vs ∧ At G (Ci a ++ M) H ∧ ∀ i v G' H', post a i → Same G G' → At G' (Co a i ++ M) H' → (R a i).h v G' → Q v H'
def OutX {α ι : Type} (M : Cells) (post : α → ι → Prop) (Co : α → ι → Cells) (R : α → ι → Pr) (a : α) : Out :=
  { nx := fun _ G' M' => ∃ i, post a i ∧ Fin (Co a i ++ M) (R a i) .non G' M', rt := fun v G' M' => ∃ i, post a i ∧ Fin (Co a i ++ M) (R a i) v G' M' }
theorem lenX {n : Nat} (h : ∀ a, (P a).length = n) : ∀ vs H Q E, (SpX pre P Ci post Co R) vs H Q E → vs.length = n := fun _ _ _ _ ⟨a, _, _, _, ha, _⟩ => ha.len.trans (h a)
theorem bodyX {X : Cx} {bs : List Stmt} {ts : TS} {Nm : List Str} {vs : List V} {H : Hp} {Q : VK} {E : XK} (hd : PSs X.nox bs ts) (hs : ∀ a G M vs, pre a → Als G (P a) vs → Sm ts (start Nm vs) G (Ci a ++ M) (OutX M post Co R a)) (hh : (SpX pre P Ci post Co R) vs H Q E) :
    ∃ t, PSs X bs t ∧ t { nx := fun _ H' => Q .non H', rt := Q } (start Nm vs) H := by
  obtain ⟨a, G, M, hp, ha, A, k⟩ := hh
  refine ⟨ts, hd.nox, hs a G M vs hp ha G H (Same.refl _) A _ ⟨fun σ G' M' H' e A' r => ?_, fun v G' M' H' e A' r => ?_, fun _ _ _ _ _ _ r => r.elim, fun _ _ _ _ _ _ r => r.elim⟩⟩
  · obtain ⟨i, hi, ⟨Y, hY⟩, hv⟩ := r
    exact k i _ G' H' hi e ((A'.perm hY).drop) hv
  · obtain ⟨i, hi, ⟨Y, hY⟩, hv⟩ := r
    exact k i _ G' H' hi e ((A'.perm hY).drop) hv
theorem q_setX (ha : EvA tr σ G M (Ci a ++ N) (P a)) (hp : pre a) (k : ∀ i v G1, post a i → Same G G1 → (R a i).h v G1 → Sm tz (σ.set j (some v)) G1 (Co a i ++ N) O) : Sm (tSeq (tAsg (tCall (SpX pre P Ci post Co R) [] E tr) (gName j)) tz) σ G M O := fun G1 H q A D d =>
  ha G1 H q A _ fun vs G2 H2 e2 A2 hvs => by
    rw [List.append_nil]
    exact ⟨a, G2, N, hp, hvs, A2, fun i v G3 H3 hi e3 A3 hv => k i v G3 hi ((q.trans e2).trans e3) hv G3 H3 (Same.refl _) A3 D (d.m (e2.trans e3))⟩
theorem s_setX (ha : EvA tr σ G M (Ci a ++ N) (P a)) (hp : pre a) (k : ∀ i v G1, post a i → Same G G1 → (R a i).h v G1 → O.nx (σ.set j (some v)) G1 (Co a i ++ N)) : Sm (tAsg (tCall (SpX pre P Ci post Co R) [] E tr) (gName j)) σ G M O := fun G1 H q A D d =>
  ha G1 H q A _ fun vs G2 H2 e2 A2 hvs => by
    rw [List.append_nil]
    exact ⟨a, G2, N, hp, hvs, A2, fun i v G3 H3 hi e3 A3 hv => d.nx _ G3 _ H3 (e2.trans e3) A3 (k i v G3 hi ((q.trans e2).trans e3) hv)⟩
end
end Sg
/-! the draws of the laws -/
namespace Dr
open PySem PySem.Spec L2 Sg
structure Row where
  a : Int
  b : Int
  ok : 0 ≤ b ∧ b < 4294967296
def cRow (r : Row) : CD := .lst [pI r.a, pI r.b]
def stp (x : Int) : Int := (x * 48271 + 11) % 2147483647
theorem stp_ok (x : Int) : 0 ≤ stp x ∧ stp x < 4294967296 := by unfold stp; omega
def num (x : Int) : Int := (x * x + 69621 * x + 7) % 2147483629
def take (r : Row) (b : Int) : Int := if r.a > 0 then r.a % b else num (stp r.b) / 64 % b
def takeR (r : Row) (b : Int) : Row := if r.a > 0 then ⟨r.a / b, r.b, r.ok⟩ else ⟨r.a, stp r.b, stp_ok _⟩
theorem take_lo (r : Row) {b : Int} (h : 0 < b) : 0 ≤ take r b := by unfold take; split <;> exact Int.emod_nonneg _ (by omega)
theorem take_hi (r : Row) {b : Int} (h : 0 < b) : take r b < b := by unfold take; split <;> exact Int.emod_lt_of_pos _ h
theorem take_dlo (r : Row) {b : Int} (h : 0 < b) : 0 ≤ take r b / 2 := Int.ediv_nonneg (take_lo r h) (by decide)
theorem take_dhi (r : Row) {b n : Int} (h : 0 < b) (hn : b ≤ 2 * n) : take r b / 2 < n := by have := take_hi r h; have := take_lo r h; omega
theorem ev_powC {σ : L2.St} {G : Hp} {M : Cells} {m n r : Int} (h : m ^ n.toNat = r := by rfl) (hc : CPow m n := by (show 0 ≤ _ ∧ _ ≤ _ ∧ _ < _); decide) : Ev (tOp (rI CPow fun i j => .int (i ^ j.toNat)) (tC (.int m)) (tC (.int n))) σ G M M (pI r) := (ev_I ev_c ev_c hc).is (by rw [h])
def spTake : Sp := SpM3 (fun (_ : Addr) (_ : Row) b => 0 < b ∧ b < 1073741824) (fun p _ b => [pV (.ref p), pI b]) (fun p r _ => [(p, cRow r)]) (fun p r b => [(p, cRow (takeR r b))]) (fun _ r b => pI (take r b))
def coinsL (r : Row) : List Int := [take r 10, 10 * take (takeR r 10) 10, take r 10 + 10 * (10 * take (takeR r 10) 10), take (takeR (takeR r 10) 10) 1000000 * 1000000 + take (takeR (takeR (takeR r 10) 10) 1000000) 1000000, 1000000000000]
def coinsX (r : Row) : Row := takeR (takeR (takeR (takeR r 10) 10) 1000000) 1000000
def coins (r : Row) : Int := (coinsL r).getD (take (coinsX r) 9 / 2).toNat 0
def coinsR (r : Row) : Row := takeR (coinsX r) 9
def spCoins : Sp := SpM2 (fun (_ : Addr) (_ : Row) => True) (fun p _ => [pV (.ref p)]) (fun p r => [(p, cRow r)]) (fun p r => [(p, cRow (coinsR r))]) (fun _ r => pI (coins r))
def wc1 (w : Str) : Bool := inV (.str w) [.str "come", .str "go"]
def wc2 (w : Str) : Bool := inV (.str w) [.str "least", .str "most"]
def wc3 (w : Str) : Bool := decide (V.str w = .str "deal")
def wc4 (w : Str) : Bool := decide (V.str w = .str "price")
def manyV (r : Row) : Int := 2 + take (takeR r 2) ([3, 13].getD (take r 2).toNat 0)
def manyR (r : Row) : Row := takeR (takeR r 2) ([3, 13].getD (take r 2).toNat 0)
def freeV (r : Row) : Int := 1 + take (manyR r) (manyV r - 1)
def freeR (r : Row) : Row := takeR (manyR r) (manyV r - 1)
def worthV (r : Row) (w : Str) : PyData :=
  if inV (.str w) [.str "come", .str "go"] = true then .bool (decide (V.int (take r 3) = .int 0)) else
  if inV (.str w) [.str "least", .str "most"] = true then .int (1 + take (takeR r 2) ([4, 14].getD (take r 2).toNat 0)) else
  if decide (V.str w = .str "deal") = true then [.tuple [.int (manyV r), .int (freeV r)], .tuple [.int (manyV r), .int (freeV r)], .none].getD (take (freeR r) 3).toNat .none else
  if decide (V.str w = .str "price") = true then (if decide (V.int (take (coinsR r) 5) = .int 0) = true then .none else .int (coins r)) else .int (coins r)
def worthR (r : Row) (w : Str) : Row :=
  if inV (.str w) [.str "come", .str "go"] = true then takeR r 3 else
  if inV (.str w) [.str "least", .str "most"] = true then takeR (takeR r 2) ([4, 14].getD (take r 2).toNat 0) else
  if decide (V.str w = .str "deal") = true then takeR (freeR r) 3 else
  if decide (V.str w = .str "price") = true then takeR (coinsR r) 5 else coinsR r
def spWorth (K : PySem.W.Frag) : Sp := SpM3 (fun (_ : Addr) (_ : Row) (_ : Str) => True) (fun p _ w => [pV (.ref p), pS w]) (fun p r _ => [(p, cRow r)]) (fun p r w => [(p, cRow (worthR r w))]) (fun _ r w => pD K (worthV r w))
theorem two_lo {r : Row} {x y : Int} (h : 0 < x) (h2 : 0 < y) : 0 < [x, y].getD (take r 2).toNat 0 := by
  have h3 := take_lo r (b := 2) (by decide)
  have h4 := take_hi r (b := 2) (by decide)
  rcases (show take r 2 = 0 ∨ take r 2 = 1 by omega) with e | e <;> rw [e] <;> simpa
theorem two_hi {r : Row} {x y n : Int} (h : x < n) (h2 : y < n) : [x, y].getD (take r 2).toNat 0 < n := by
  have h3 := take_lo r (b := 2) (by decide)
  have h4 := take_hi r (b := 2) (by decide)
  rcases (show take r 2 = 0 ∨ take r 2 = 1 by omega) with e | e <;> rw [e] <;> simpa
theorem many_lo (r : Row) : 2 ≤ manyV r := by
  have := take_lo (takeR r 2) (b := [3, 13].getD (take r 2).toNat 0) (two_lo (by decide) (by decide))
  unfold manyV; omega
theorem many_hi (r : Row) : manyV r ≤ 14 := by
  have := take_hi (takeR r 2) (b := [3, 13].getD (take r 2).toNat 0) (two_lo (by decide) (by decide))
  have := two_hi (r := r) (x := 3) (y := 13) (n := 14) (by decide) (by decide)
  unfold manyV; omega
theorem many_lo1 (r : Row) : 0 < manyV r - 1 := by have := many_lo r; omega
theorem many_hi1 (r : Row) : manyV r - 1 < 1073741824 := by have := many_hi r; omega
/-- a rule: its word, its days, its worth -/
structure Rul where
  w : Str
  f : Int
  l : Int
  d : PyData
def Rul.enc (r : Rul) : PyData := .tuple [.str r.w, .int r.f, .int r.l, r.d]
def wordsL : List Str := ["price", "price", "price", "come", "go", "least", "most", "deal", "fee"]
def mx (m n : Int) : Int := if n > m then n else m
def mn (m n : Int) : Int := if n < m then n else m
def rWord (r : Row) : Str := wordsL.getD (take r 9).toNat Str.empty
def rA1 (r : Row) : Row := takeR r 9
def aheadV (r : Row) (day : Int) : Int := [take r 12 - 3, take (takeR r 12) 6, -day, 0].getD (take (takeR (takeR r 12) 6) 4).toNat 0
def aheadR (r : Row) : Row := takeR (takeR (takeR r 12) 6) 4
def firstV (r : Row) (day : Int) : Int := mn 1000000 (mx 0 (day + aheadV r day))
def spanV (r : Row) : Int := [0, take r 3, take (takeR r 3) 14, 60, 1000000].getD (take (takeR (takeR r 3) 14) 5).toNat 0
def spanR (r : Row) : Row := takeR (takeR (takeR r 3) 14) 5
def ruleV (r : Row) (day : Int) : Rul := ⟨rWord r, firstV (rA1 r) day, mn 1000000 (firstV (rA1 r) day + spanV (aheadR (rA1 r))), worthV (spanR (aheadR (rA1 r))) (rWord r)⟩
def ruleR (r : Row) : Row := worthR (spanR (aheadR (rA1 r))) (rWord r)
def spRule (K : PySem.W.Frag) : Sp := SpM3 (fun (_ : Addr) (_ : Row) (_ : Int) => True) (fun p _ d => [pV (.ref p), pI d]) (fun p r _ => [(p, cRow r)]) (fun p r _ => [(p, cRow (ruleR r))]) (fun _ r d => pD K (ruleV r d).enc)
end Dr
/-! the program's rules and texts as plain functions; the promises of its defs -/
namespace Pm
open PySem PySem.Spec L2 Sg Dr
/-! days.py -/
def isWhole (d : PyData) : Bool := isTy "int" d && !isTy "bool" d
theorem whole_int {d : PyData} (h : isWhole d = true) : ∃ n, d = .int n := by
  cases d with
  | int n => exact ⟨n, rfl⟩
  | _ => cases h
def rngB (lo hi : Int) : PyData → Bool
  | .int n => decide (lo ≤ n) && decide (n ≤ hi)
  | _ => false
def isDay (d : PyData) : Bool := isWhole d && rngB 0 1000000 d
theorem day_int {d : PyData} (h : isDay d = true) : ∃ n, d = .int n := whole_int (Bool.and_eq_true_iff.mp h).1
def isTwo (x y : PyData) : Bool := isDay x && isDay y
def leB : PyData → PyData → Bool
  | .int m, .int n => decide (m ≤ n)
  | _, _ => false
def isStr2 (x y : PyData) : Bool := isTwo x y && leB x y
def spWhole (K : PySem.W.Frag) : Sp := SpP1 (fun _ => True) (fun d => [pD K d]) (fun d => pB (isWhole d))
def spDay (K : PySem.W.Frag) : Sp := SpP1 (fun _ => True) (fun d => [pD K d]) (fun d => pB (isDay d))
def spTwo (K : PySem.W.Frag) : Sp := SpP2 (fun _ _ => True) (fun x y => [pD K (.tuple [x, y])]) (fun x y => pB (isTwo x y))
def spStr2 (K : PySem.W.Frag) : Sp := SpP2 (fun _ _ => True) (fun x y => [pD K (.tuple [x, y])]) (fun x y => pB (isStr2 x y))
/-! rules.py -/
def isCoins (d : PyData) : Bool := isWhole d && rngB 0 1000000000000 d
def isNights (d : PyData) : Bool := isWhole d && rngB 1 14 d
def spCoinsP (K : PySem.W.Frag) : Sp := SpP1 (fun _ => True) (fun d => [pD K d]) (fun d => pB (isCoins d))
def spNights (K : PySem.W.Frag) : Sp := SpP1 (fun _ => True) (fun d => [pD K d]) (fun d => pB (isNights d))
def isNone : PyData → Bool
  | .none => true
  | _ => false
theorem isNone_h {K : PySem.W.Frag} {d : PyData} : ∀ v G, (pD K d).h v G → decide (v = .non) = isNone d := fun v G h => by
  cases (show Dp K G v d from h) <;> rfl
def freeB : PyData → PyData → Bool
  | .int m, .int n => decide (1 ≤ n) && decide (n < m)
  | _, _ => false
def dealOk : PyData → Bool
  | .none => true
  | .tuple [x, y] => isNights x && (isWhole y && freeB x y)
  | _ => false
/-- WORDS -/
def WORDS : List Str := ["price", "come", "go", "least", "most", "deal", "fee"]
def fitsW (w : Str) (d : PyData) : Bool :=
  if decide (V.str w = .str "price") = true then isNone d || isCoins d else
  if decide (V.str w = .str "come") = true then isTy "bool" d else
  if decide (V.str w = .str "go") = true then isTy "bool" d else
  if decide (V.str w = .str "least") = true then isNights d else
  if decide (V.str w = .str "most") = true then isNights d else
  if decide (V.str w = .str "deal") = true then dealOk d else isCoins d
/-- the class of a word -/
def cAd (K : PySem.W.Frag) (w : Str) : Addr :=
  if decide (V.str w = .str "price") = true then He.ga K "Price" else
  if decide (V.str w = .str "come") = true then He.ga K "Come" else
  if decide (V.str w = .str "go") = true then He.ga K "Go" else
  if decide (V.str w = .str "least") = true then He.ga K "Least" else
  if decide (V.str w = .str "most") = true then He.ga K "Most" else
  if decide (V.str w = .str "deal") = true then He.ga K "Deal" else He.ga K "Fee"
def fRl (K : PySem.W.Frag) (r : Rul) : List (Str × Pr) := [("first", pI r.f), ("last", pI r.l), ("worth", pD K r.d)]
/-- a rule as an object -/
def pRl (K : PySem.W.Frag) (r : Rul) : Pr := pO (cAd K r.w) (fRl K r)
def spRInit (K : PySem.W.Frag) : Sp := SpM5 (fun (_ : Addr) w (_ _ : Int) (_ : PyData) => w ∈ WORDS) (fun x _ f l d => [pV (.ref x), pI f, pI l, pD K d]) (fun x w _ _ _ => [(x, .ins (cAd K w) [])]) (fun x w f l d => [(x, .ins (cAd K w) (fRl K ⟨w, f, l, d⟩))]) (fun _ _ _ _ _ => pN)
section
variable {K : PySem.W.Frag} {σ : L2.St} {G : Hp} {M M1 M2 M3 N : Cells} {φ ψ : Pr} {tr : TA} {ta : TE} {E : XK} {C : Addr} {w : Str} {f l : Int} {d : PyData} {r : Rul}
theorem ei_rule (hw : w ∈ WORDS) (hC : cAd K w = C) (ha : EvA tr σ G M N [pI f, pI l, pD K d]) : Ev (tMake C (spRInit K) [] E tr) σ G M N (pRl K ⟨w, f, l, d⟩) := by
  subst hC
  refine EvI.keep (C := cAd K w) (fs := fRl K ⟨w, f, l, d⟩) (ei_make (M2 := N) ha fun p G' H' vs e hvs A Q k => ?_)
  exact ⟨p, w, f, l, d, G', N, hw, ⟨rfl, hvs⟩, A, fun v G2 H2 e2 A2 hv => by
    cases (show v = .non from hv)
    exact k G2 H2 e2 A2⟩
theorem fR_first : ((fRl K r).map Prod.fst).findIdx? (· == ("first" : Str)) = some 0 := by
  show ([("first" : Str), "last", "worth"]).findIdx? (· == ("first" : Str)) = some 0
  decide +kernel
theorem fR_last : ((fRl K r).map Prod.fst).findIdx? (· == ("last" : Str)) = some 1 := by
  show ([("first" : Str), "last", "worth"]).findIdx? (· == ("last" : Str)) = some 1
  decide +kernel
theorem fR_worth : ((fRl K r).map Prod.fst).findIdx? (· == ("worth" : Str)) = some 2 := by
  show ([("first" : Str), "last", "worth"]).findIdx? (· == ("worth" : Str)) = some 2
  decide +kernel
theorem rl_inst {m : Str} (hm : m ∉ ([("first" : Str), "last", "worth"])) : ∀ v G', (pRl K r).h v G' → ∃ a dx fs, v = .ref a ∧ G' a = some (.ins (cAd K r.w) dx fs) ∧ fs.lookup m = none := fun v G' ⟨a, dx, vs, h1, h2, h3⟩ => ⟨a, dx, _, h1, h2, lk_none hm⟩
end
def spFits (K : PySem.W.Frag) (w : Str) : Sp := SpP1 (fun r => r.w = w) (fun r => [pRl K r]) (fun r => pB (fitsW r.w r.d))
def spWord (K : PySem.W.Frag) (w : Str) : Sp := SpP1 (fun r => r.w = w) (fun r => [pRl K r]) (fun r => pS r.w)
def spTold (K : PySem.W.Frag) : Sp := SpP1 (fun r => r.w ∈ WORDS) (fun r => [pRl K r]) (fun r => pD K r.enc)
def spTells (K : PySem.W.Frag) : Sp := SpP2 (fun r (_ : Int) => r.w ∈ WORDS) (fun r n => [pRl K r, pI n]) (fun r n => pB (decide (r.f ≤ n) && decide (n ≤ r.l)))
def spMade (K : PySem.W.Frag) : Sp := SpP4 (fun w (_ _ : Int) (_ : PyData) => w ∈ WORDS) (fun w f l d => [pS w, pI f, pI l, pD K d]) (fun w f l d => pRl K ⟨w, f, l, d⟩)
/-- what a thing is as a rule -/
def ruleOf : PyData → Option Rul
  | .tuple [.str w, .int f, .int l, d] => if inV (.str w) (WORDS.map V.str) && isStr2 (.int f) (.int l) && fitsW w d then some ⟨w, f, l, d⟩ else none
  | _ => none
def pOp (o : Option Pr) : Pr := match o with
  | some p => p
  | none => pN
def tb3 : PyData → Bool
  | .str w => !inV (.str w) (WORDS.map V.str)
  | _ => false
def tb2 : List PyData → Bool
  | [x, _, _, _] => !isTy "str" x || tb3 x
  | _ => false
def tb1 : PyData → Bool
  | .tuple ds => !decide (V.int (ds.length : Int) = V.int 4) || tb2 ds
  | _ => false
def topBad (d : PyData) : Bool := !isTy "tuple" d || tb1 d
theorem tup_of {d : PyData} (h : (!isTy "tuple" d) = false) : ∃ ds, d = .tuple ds := by
  cases d with
  | tuple ds => exact ⟨ds, rfl⟩
  | _ => cases h
theorem str_of {d : PyData} (h : (!isTy "str" d) = false) : ∃ w, d = .str w := by
  cases d with
  | str w => exact ⟨w, rfl⟩
  | _ => cases h
theorem len4 {ds : List PyData} (h : (!decide (V.int (ds.length : Int) = V.int 4)) = false) : ∃ a b c e, ds = [a, b, c, e] := by
  have h1 : ds.length = 4 := by
    have : V.int (ds.length : Int) = V.int 4 := by simpa using h
    have := V.int.inj this
    omega
  match ds, h1 with
  | [a, b, c, e], _ => exact ⟨a, b, c, e, rfl⟩
theorem inV_words {w : Str} {l : List Str} : inV (.str w) (l.map V.str) = decide (w ∈ l) := by
  unfold inV
  induction l with
  | nil => rfl
  | cons a t ih =>
    rw [List.map_cons, List.any_cons, ih]
    by_cases e : a = w
    · subst e
      simp [eqV]
    · have e2 : ¬ w = a := fun q => e q.symm
      simp [eqV, e, e2]
theorem top_of {d : PyData} (h : topBad d = false) : ∃ w a b c, d = .tuple [.str w, a, b, c] ∧ w ∈ WORDS := by
  unfold topBad at h
  rw [Bool.or_eq_false_iff] at h
  obtain ⟨h1, h2⟩ := h
  obtain ⟨ds, rfl⟩ := tup_of h1
  unfold tb1 at h2
  rw [Bool.or_eq_false_iff] at h2
  obtain ⟨h3, h4⟩ := h2
  obtain ⟨a, b, c, e, rfl⟩ := len4 h3
  unfold tb2 at h4
  rw [Bool.or_eq_false_iff] at h4
  obtain ⟨h5, h6⟩ := h4
  obtain ⟨w, rfl⟩ := str_of h5
  have h7 : (!inV (.str w) (WORDS.map V.str)) = false := h6
  rw [inV_words] at h7
  exact ⟨w, b, c, e, rfl, by simpa using h7⟩
theorem rule_top {d : PyData} (h : topBad d = true) : ruleOf d = none := by
  unfold ruleOf
  split
  · rename_i w f l d'
    split
    · rename_i hh
      simp only [Bool.and_eq_true] at hh
      have h1 := hh.1.1
      have e : topBad (.tuple [.str w, .int f, .int l, d']) = !inV (.str w) (WORDS.map V.str) := by
        simp [topBad, tb1, tb2, tb3, isTy_tuple, isTy_str]
      rw [e, h1] at h
      cases h
    · rfl
  · rfl
theorem str2_of {a b : PyData} (h : isStr2 a b = true) : ∃ f l, a = .int f ∧ b = .int l := by
  unfold isStr2 isTwo at h
  simp only [Bool.and_eq_true] at h
  obtain ⟨f, rfl⟩ := day_int h.1.1
  obtain ⟨l, rfl⟩ := day_int h.1.2
  exact ⟨f, l, rfl, rfl⟩
theorem rule_str {w : Str} {a b c : PyData} (h : isStr2 a b = false) : ruleOf (.tuple [.str w, a, b, c]) = none := by
  unfold ruleOf
  split
  · rename_i w' f l d' e
    injection e with e
    injection e with e1 e
    injection e with e2 e
    injection e with e3 e
    subst e2 e3
    rw [h]
    simp
  · rfl
theorem rule_some {w : Str} {f l : Int} {c : PyData} (hw : w ∈ WORDS) (h : isStr2 (.int f) (.int l) = true) : ruleOf (.tuple [.str w, .int f, .int l, c]) = if fitsW w c = true then some ⟨w, f, l, c⟩ else none := by
  unfold ruleOf
  have : inV (.str w) (WORDS.map V.str) = true := by rw [inV_words]; simpa using hw
  simp only [this, h, Bool.true_and]
def spRuleOf (K : PySem.W.Frag) : Sp := SpP1 (fun _ => True) (fun d => [pD K d]) (fun d => pOp ((ruleOf d).map (pRl K)))
/-! texts.py -/
def worthText (w : Str) (d : PyData) : Str := match d with
  | .none => "none"
  | .bool b => if b then "yes" else "no"
  | .tuple [.int m, .int n] => toString m ++ " " ++ toString n
  | .int n => toString n
  | _ => Str.empty
/-- the worths that may be written -/
def small (n : Int) : Bool := decide (0 ≤ n) && decide (n ≤ 1000000000000)
def wOk (w : Str) (d : PyData) : Bool := match d with
  | .none => true
  | .bool _ => inV (.str w) [.str "come", .str "go"]
  | .int n => small n && !(decide (V.str w = .str "come") || (decide (V.str w = .str "go") || decide (V.str w = .str "deal")))
  | .tuple [.int m, .int n] => small m && small n && decide (V.str w = .str "deal")
  | _ => false
def spWText (K : PySem.W.Frag) : Sp := SpP2 (fun w d => wOk w d = true) (fun w d => [pS w, pD K d]) (fun w d => pS (worthText w d))
def ruleText (r : Rul) : Str := r.w ++ " " ++ toString r.f ++ " " ++ toString r.l ++ " " ++ worthText r.w r.d
def rOk (r : Rul) : Bool := wOk r.w r.d && small r.f && small r.l && decide (r.w.length ≤ 10)
def spRText (K : PySem.W.Frag) : Sp := SpP1 (fun r => rOk r = true) (fun r => [pD K r.enc]) (fun r => pS (ruleText r))
end Pm
/-! texts.py: mirrors, promises, laws of lengths -/
namespace Pm
open PySem PySem.Spec L2 Sg Dr
section
variable {K : PySem.W.Frag} {σ : L2.St} {G : Hp} {M M1 M2 : Cells} {ta tb te : TE} {α : Type}
/-- lists of one form -/
theorem ev_allF {xs : List α} {f : α → Bool} (h : Ev ta σ G M M1 (pL (xs.map fun x => pB (f x)))) : Ev (tCB (rAll K) (tCons ta tNil)) σ G M M1 (pB (xs.all f)) := by
  have e : (xs.map fun x => pB (f x)) = (xs.map f).map pB := by rw [List.map_map]; rfl
  rw [e] at h
  have q := ev_all (K := K) h
  rw [List.all_map] at q
  exact q
theorem Ev.dLF {xs : List α} {f : α → PyData} (h : Ev ta σ G M M1 (pL (xs.map fun x => pD K (f x)))) : Ev ta σ G M M1 (pD K (.list (xs.map f))) := by
  have e : (xs.map fun x => pD K (f x)) = (xs.map f).map (pD K) := by rw [List.map_map]; rfl
  rw [e] at h
  exact h.dL
theorem pS_pD {v : V} {s : Str} (h : (pS s).h v G) : (pD K (.str s)).h v G := by cases (show v = .str s from h); exact .str s
theorem als_S : ∀ {ws : List Str} {vs : List V}, Als G (ws.map pS) vs → Als G ((ws.map PyData.str).map (pD K)) vs
  | [], [], _ => trivial
  | _ :: _, [], h => h.elim
  | [], _ :: _, h => h.elim
  | _ :: _, _ :: _, ⟨h, t⟩ => ⟨pS_pD h, als_S t⟩
def strsD (ws : List Str) : PyData := .list (ws.map .str)
theorem Ev.dLS {ws : List Str} (h : Ev ta σ G M M1 (pL (ws.map pS))) : Ev ta σ G M M1 (pD K (strsD ws)) := Ev.dL (h.imp fun v _ _ ⟨l, vs, hv, hq, hal⟩ => ⟨l, vs, hv, hq, als_S hal⟩)
end
theorem Ev.asD {K : PySem.W.Frag} {σ : L2.St} {G : Hp} {M M1 : Cells} {te : TE} {d e : PyData} (h : Ev te σ G M M1 (pD K d)) (q : d = e) : Ev te σ G M M1 (pD K e) := q ▸ h
theorem atI_head {α : Type} (c : α) (t : List α) : atI (c :: t) 0 = some c := by
  have e : ixN (c :: t).length 0 = some 0 := by
    unfold ixN
    rw [if_pos (by decide), if_pos (by simp only [List.length_cons]; omega)]
    rfl
  unfold atI
  rw [e]
  rfl
theorem atI_nat {α : Type} (xs : List α) (k : Nat) (h : k < xs.length) : atI xs (k : Int) = xs[k]? := by
  have e : ixN xs.length (k : Int) = some k := by
    unfold ixN
    rw [if_pos (by omega), if_pos (by omega)]
    simp
  unfold atI
  rw [e]
  rfl
theorem at_0 {α β : Type} {F : α → β} (a : α) (t : List α) : atI ((a :: t).map F) 0 = some (F a) := atI_head _ _
theorem at_1 {α β : Type} {F : α → β} {a : α} (b : α) (t : List α) : atI ((a :: b :: t).map F) 1 = some (F b) := atI_nat _ 1 (by simp)
theorem at_2 {α β : Type} {F : α → β} {a b : α} (c : α) (t : List α) : atI ((a :: b :: c :: t).map F) 2 = some (F c) := atI_nat _ 2 (by simp)
theorem isNone_of {d : PyData} (h : isNone d = true) : d = .none := by
  cases d with
  | none => rfl
  | _ => cases h
theorem small_log {n : Int} (h : small n = true) : n.natAbs.log2 < 1920 := by
  unfold small at h
  rw [Bool.and_eq_true, decide_eq_true_eq, decide_eq_true_eq] at h
  have h1 : n.natAbs < 2 ^ 60 := by omega
  by_cases e : n.natAbs = 0
  · rw [e]; decide
  · have := (Nat.log2_lt e).mpr h1
    omega
theorem small_len {n : Int} (h : small n = true) : (Str.ofString (toString n)).length ≤ 13 := by
  unfold small at h
  rw [Bool.and_eq_true, decide_eq_true_eq, decide_eq_true_eq] at h
  exact PyProof.Rows.toString_length_le h.1 (by decide) (by omega)
theorem wOk_bool {w : Str} {d : PyData} (h : wOk w d = true) (h1 : isNone d = false) (h2 : (decide (V.str w = .str "come") || decide (V.str w = .str "go")) = true) : ∃ b, d = .bool b := by
  unfold wOk at h
  split at h
  · cases h1
  · exact ⟨_, rfl⟩
  · rename_i n
    rw [Bool.or_eq_true] at h2
    simp only [Bool.and_eq_true, Bool.not_eq_true', Bool.or_eq_false_iff] at h
    rcases h2 with e | e
    · rw [h.2.1] at e; cases e
    · rw [h.2.2.1] at e; cases e
  · rename_i m n
    have e : decide (V.str w = V.str "deal") = true := by
      simp only [Bool.and_eq_true] at h
      exact h.2
    have e1 := of_decide_eq_true e
    rw [e1] at h2
    exact absurd h2 (by decide)
  · cases h
theorem wOk_deal {w : Str} {d : PyData} (h : wOk w d = true) (h1 : isNone d = false) (h3 : decide (V.str w = .str "deal") = true) : ∃ m n, d = .tuple [.int m, .int n] ∧ small m = true ∧ small n = true := by
  unfold wOk at h
  split at h
  · cases h1
  · have e := of_decide_eq_true h3
    rw [e] at h
    exact absurd h (by decide)
  · simp only [Bool.and_eq_true, Bool.not_eq_true', Bool.or_eq_false_iff] at h
    rw [h.2.2.2] at h3
    cases h3
  · rename_i m n
    simp only [Bool.and_eq_true] at h
    exact ⟨m, n, rfl, h.1.1, h.1.2⟩
  · cases h
theorem wOk_int {w : Str} {d : PyData} (h : wOk w d = true) (h1 : isNone d = false) (h2 : (decide (V.str w = .str "come") || decide (V.str w = .str "go")) = false) (h3 : decide (V.str w = .str "deal") = false) : ∃ n, d = .int n ∧ small n = true := by
  unfold wOk at h
  split at h
  · cases h1
  · rw [show inV (.str w) [.str "come", .str "go"] = (decide (V.str w = .str "come") || decide (V.str w = .str "go")) by
      rw [show ([.str "come", .str "go"] : List V) = (["come", "go"] : List Str).map V.str from rfl, inV_words]
      simp [V.str.injEq]] at h
    rw [h2] at h
    cases h
  · rename_i n
    simp only [Bool.and_eq_true] at h
    exact ⟨n, rfl, h.1⟩
  · rw [h3, Bool.and_false] at h
    cases h
  · cases h
theorem wtext_len {w : Str} {d : PyData} (h : wOk w d = true) : (worthText w d).length ≤ 30 := by
  unfold wOk at h
  unfold worthText
  split at h
  · decide
  · rename_i b; cases b <;> decide
  · rename_i n
    simp only [Bool.and_eq_true] at h
    have := small_len h.1
    show (Str.ofString (toString n)).length ≤ 30
    omega
  · rename_i m n
    simp only [Bool.and_eq_true] at h
    have h1 := small_len h.1.1
    have h2 := small_len h.1.2
    show (Str.ofString (toString m) ++ " " ++ Str.ofString (toString n) : Str).length ≤ 30
    rw [Str.length_append, Str.length_append]
    have : (Str.ofString " ").length = 1 := by decide
    omega
  · cases h
theorem rOk_parts {r : Rul} (h : rOk r = true) : wOk r.w r.d = true ∧ small r.f = true ∧ small r.l = true ∧ r.w.length ≤ 10 := by
  unfold rOk at h
  simp only [Bool.and_eq_true, decide_eq_true_eq] at h
  exact ⟨h.1.1.1, h.1.1.2, h.1.2, h.2⟩
theorem lenSP : (Str.ofString " ").length = 1 := by decide
theorem lenE : (Str.empty).length = 0 := by decide
theorem lenTo (n : Int) : (toString n : Str) = Str.ofString (toString n) := rfl
theorem deal_z1 {m : Int} (hm : small m = true) : (Str.empty ++ Str.ofString (toString m)).length ≤ sizeLine := by
  have := small_len hm
  rw [Str.length_append, lenE]; show _ ≤ 2 ^ 24; omega
theorem deal_z2 {m : Int} (hm : small m = true) : (Str.empty ++ Str.ofString (toString m) ++ Str.ofString " ").length ≤ sizeLine := by
  have := small_len hm
  rw [Str.length_append, Str.length_append, lenE, lenSP]; show _ ≤ 2 ^ 24; omega
theorem deal_z3 {m n : Int} (hm : small m = true) (hn : small n = true) : (Str.empty ++ Str.ofString (toString m) ++ Str.ofString " " ++ Str.ofString (toString n)).length ≤ sizeLine := by
  have := small_len hm
  have := small_len hn
  rw [Str.length_append, Str.length_append, Str.length_append, lenE, lenSP]; show _ ≤ 2 ^ 24; omega
/-- the beginning of a rule's text -/
def rtCut (w a b c : Str) : Nat → Str
  | 0 => Str.empty ++ w
  | 1 => Str.empty ++ w ++ Str.ofString " "
  | 2 => Str.empty ++ w ++ Str.ofString " " ++ a
  | 3 => Str.empty ++ w ++ Str.ofString " " ++ a ++ Str.ofString " "
  | 4 => Str.empty ++ w ++ Str.ofString " " ++ a ++ Str.ofString " " ++ b
  | 5 => Str.empty ++ w ++ Str.ofString " " ++ a ++ Str.ofString " " ++ b ++ Str.ofString " "
  | _ => Str.empty ++ w ++ Str.ofString " " ++ a ++ Str.ofString " " ++ b ++ Str.ofString " " ++ c
theorem rt_len {w a b c : Str} (hw : w.length ≤ 10) (ha : a.length ≤ 13) (hb : b.length ≤ 13) (hc : c.length ≤ 30) (i : Nat) : (rtCut w a b c i).length ≤ 70 := by
  unfold rtCut
  split <;> simp only [Str.length_append, lenE, lenSP] <;> omega
theorem rt_z {r : Rul} (hz : r.w.length ≤ 10) (hf : small r.f = true) (hl : small r.l = true) (hw : wOk r.w r.d = true) (i : Nat) : (rtCut r.w (Str.ofString (toString r.f)) (Str.ofString (toString r.l)) (worthText r.w r.d) i).length ≤ sizeLine :=
  Nat.le_trans (rt_len hz (small_len hf) (small_len hl) (wtext_len hw) i) (by decide)
theorem rtext_len {r : Rul} (h : rOk r = true) : (ruleText r).length ≤ 70 := by
  obtain ⟨hw, hf, hl, hz⟩ := rOk_parts h
  have h := rt_len hz (small_len hf) (small_len hl) (wtext_len hw) 6
  have e : (Str.empty ++ r.w ++ Str.ofString " " ++ Str.ofString (toString r.f) ++ Str.ofString " " ++ Str.ofString (toString r.l) ++ Str.ofString " " ++ worthText r.w r.d).length ≤ 70 := h
  rw [Str.empty_append] at e
  exact e
/-! fits, word by word -/
theorem fits_price {d : PyData} : fitsW "price" d = (isNone d || isCoins d) := by
  unfold fitsW
  rw [if_pos (by decide)]
theorem fits_come {d : PyData} : fitsW "come" d = isTy "bool" d := by
  unfold fitsW
  rw [if_neg (by decide), if_pos (by decide)]
theorem fits_go {d : PyData} : fitsW "go" d = isTy "bool" d := by
  unfold fitsW
  rw [if_neg (by decide), if_neg (by decide), if_pos (by decide)]
theorem fits_least {d : PyData} : fitsW "least" d = isNights d := by
  unfold fitsW
  rw [if_neg (by decide), if_neg (by decide), if_neg (by decide), if_pos (by decide)]
theorem fits_most {d : PyData} : fitsW "most" d = isNights d := by
  unfold fitsW
  rw [if_neg (by decide), if_neg (by decide), if_neg (by decide), if_neg (by decide), if_pos (by decide)]
theorem fits_deal {d : PyData} : fitsW "deal" d = dealOk d := by
  unfold fitsW
  rw [if_neg (by decide), if_neg (by decide), if_neg (by decide), if_neg (by decide), if_neg (by decide), if_pos (by decide)]
theorem fits_fee {d : PyData} : fitsW "fee" d = isCoins d := by
  unfold fitsW
  rw [if_neg (by decide), if_neg (by decide), if_neg (by decide), if_neg (by decide), if_neg (by decide), if_neg (by decide)]
theorem nights_int {d : PyData} (h : isNights d = true) : ∃ n, d = .int n := whole_int (Bool.and_eq_true_iff.mp h).1
def dealB1 : PyData → Bool
  | .tuple ds => !decide (V.int (ds.length : Int) = V.int 2)
  | _ => false
def dealBad (d : PyData) : Bool := !isTy "tuple" d || dealB1 d
theorem deal_two {d : PyData} (h : dealBad d = false) : ∃ x y, d = .tuple [x, y] := by
  unfold dealBad at h
  rw [Bool.or_eq_false_iff] at h
  obtain ⟨ds, rfl⟩ := tup_of h.1
  have h1 : (!decide (V.int (ds.length : Int) = V.int 2)) = false := h.2
  have h2 : ds.length = 2 := by
    have : V.int (ds.length : Int) = V.int 2 := by simpa using h1
    have := V.int.inj this
    omega
  match ds, h2 with
  | [a, b], _ => exact ⟨a, b, rfl⟩
theorem deal_bad {d : PyData} (h1 : isNone d = false) (h : dealBad d = true) : dealOk d = false := by
  unfold dealOk
  split
  · cases h1
  · rename_i x y
    simp [dealBad, dealB1, isTy_tuple] at h
  · rfl
/-! numbers -/
def FIG : Str := "0123456789"
def isFig (c : Nat) : Bool := decide (c ∈ FIG.cps.toList)
theorem isFig_iff (c : Nat) : isFig c = true ↔ 48 ≤ c ∧ c ≤ 57 := by
  unfold isFig
  rw [decide_eq_true_eq, show FIG.cps.toList = [48, 49, 50, 51, 52, 53, 54, 55, 56, 57] by decide +kernel]
  simp only [List.mem_cons, List.not_mem_nil, or_false]
  omega
def zHead (w : Str) : Bool := match w.cps.toList with
  | c :: _ => decide (V.str ⟨#[c]⟩ = V.str "0") && !decide (V.str w = V.str "0")
  | [] => false
def numBad (w : Str) : Bool := decide (V.str w = V.str "") || (!(w.cps.toList.all isFig) || zHead w)
def numVal (w : Str) : Int := ((NumText.digitsVal w.cps.toList : Nat) : Int)
def numD (w : Str) : PyData := if numBad w = true then .none else .int (numVal w)
theorem ne_cps {w : Str} (h : decide (V.str w = V.str "") = false) : ∃ c t, w.cps.toList = c :: t := by
  cases e : w.cps.toList with
  | cons c t => exact ⟨c, t, rfl⟩
  | nil =>
    have : w = "" := Str.ext' (Array.toList_inj.mp (e.trans (show [] = (Str.ofString "").cps.toList by decide +kernel)))
    rw [this] at h
    simp at h
theorem num_reads {w : Str} (h : numBad w = false) (hl : w.length ≤ 640) : intText? w = some (numVal w) := by
  unfold numBad at h
  rw [Bool.or_eq_false_iff, Bool.or_eq_false_iff] at h
  obtain ⟨h1, h2, _⟩ := h
  obtain ⟨c, t, e⟩ := ne_cps h1
  refine intText_digits ?_ (by rw [e]; simp) (by omega)
  intro c hc
  rw [Bool.not_eq_false', List.all_eq_true] at h2
  exact (isFig_iff c).mp (h2 c hc)
def spNum (K : PySem.W.Frag) : Sp := SpP1 (fun w => w.length ≤ 640) (fun w => [pS w]) (fun w => pD K (numD w))
/-! signs of pieces -/
def okS (s : Str) : Prop := s.length ≤ 640 ∧ PyData.strOk s = true
theorem okS_iff {s : Str} : okS s ↔ (TL.tl s).length ≤ 640 ∧ ∀ c ∈ TL.tl s, c < 0x110000 := by
  unfold okS PyData.strOk
  rw [TL.len_tl, ← Array.all_toList, List.all_eq_true]
  simp only [decide_eq_true_eq]
theorem spl_in (S : List Nat) : ∀ (l : List Nat) (k : Nat) (acc p : List Nat), p ∈ TL.spl S k acc l → p.length ≤ acc.length + l.length ∧ ∀ c ∈ p, c ∈ acc ∨ c ∈ l
  | [], k, acc, p, h => by
    rw [TL.spl_nil] at h
    rw [List.mem_singleton.mp h]
    exact ⟨by simp, fun c hc => .inl hc⟩
  | x :: r, 0, acc, p, h => by
    cases e : TL.pre S (x :: r) with
    | true =>
      rw [TL.spl_hit e] at h
      rcases List.mem_cons.mp h with h | h
      · subst h; exact ⟨by omega, fun c hc => .inl hc⟩
      · obtain ⟨h1, h2⟩ := spl_in S r _ [] p h
        refine ⟨by simp at h1 ⊢; omega, fun c hc => ?_⟩
        rcases h2 c hc with q | q
        · cases q
        · exact .inr (List.mem_cons_of_mem _ q)
    | false =>
      rw [TL.spl_miss e] at h
      obtain ⟨h1, h2⟩ := spl_in S r 0 (acc ++ [x]) p h
      refine ⟨by simp at h1 ⊢; omega, fun c hc => ?_⟩
      rcases h2 c hc with q | q
      · rcases List.mem_append.mp q with q | q
        · exact .inl q
        · rw [List.mem_singleton.mp q]; exact .inr List.mem_cons_self
      · exact .inr (List.mem_cons_of_mem _ q)
  | x :: r, k + 1, acc, p, h => by
    have e : TL.spl S (k + 1) acc (x :: r) = TL.spl S k acc r := rfl
    rw [e] at h
    obtain ⟨h1, h2⟩ := spl_in S r k acc p h
    refine ⟨by simp; omega, fun c hc => ?_⟩
    rcases h2 c hc with q | q
    · exact .inl q
    · exact .inr (List.mem_cons_of_mem _ q)
theorem spl_len (S : List Nat) : ∀ (l : List Nat) (k : Nat) (acc : List Nat), (TL.spl S k acc l).length ≤ l.length + 1
  | [], k, acc => by rw [TL.spl_nil]; simp
  | x :: r, 0, acc => by
    cases e : TL.pre S (x :: r) with
    | true =>
      rw [TL.spl_hit e]
      have := spl_len S r (S.length - 1) []
      simp; omega
    | false =>
      rw [TL.spl_miss e]
      have := spl_len S r 0 (acc ++ [x])
      simp; omega
  | x :: r, k + 1, acc => by
    have e : TL.spl S (k + 1) acc (x :: r) = TL.spl S k acc r := rfl
    rw [e]
    have := spl_len S r k acc
    simp; omega
def SP : Str := " "
theorem tl_SP : TL.tl SP = [32] := by decide +kernel
theorem split_map (t : Str) : (Txt.split t SP).map TL.tl = TL.spl [32] 0 [] (TL.tl t) := by
  rw [TL.split_spl t SP (by rw [tl_SP]; simp) (TL.kind_ok (by decide +kernel)), tl_SP]
theorem split_ok {t : Str} (h : okS t) : (Txt.split t SP).length ≤ 641 ∧ ∀ x ∈ Txt.split t SP, okS x := by
  rw [okS_iff] at h
  refine ⟨?_, fun x hx => ?_⟩
  · have := spl_len [32] (TL.tl t) 0 []
    rw [← split_map, List.length_map] at this
    omega
  · rw [okS_iff]
    have hm : TL.tl x ∈ TL.spl [32] 0 [] (TL.tl t) := by rw [← split_map]; exact List.mem_map_of_mem hx
    obtain ⟨h1, h2⟩ := spl_in [32] _ 0 [] _ hm
    refine ⟨by rw [List.length_nil, Nat.zero_add] at h1; omega, fun c hc => ?_⟩
    rcases h2 c hc with q | q
    · cases q
    · exact h.2 c q
theorem canAll_strs : ∀ ws : List Str, (∀ x ∈ ws, okS x) → PyData.canLayAll0 (ws.map PyData.str) = true
  | [], _ => by simp [PyData.canLayAll0]
  | w :: r, h => by
    simp only [List.map_cons, PyData.canLayAll0, PyData.canLay0, Bool.and_eq_true]
    exact ⟨(h w List.mem_cons_self).2, canAll_strs r fun x hx => h x (List.mem_cons_of_mem _ hx)⟩
theorem depthAll_strs : ∀ ws : List Str, PyData.depthAll (ws.map PyData.str) ≤ 1
  | [] => by simp [PyData.depthAll]
  | n :: r => by
    have := depthAll_strs r
    simp only [List.map_cons, PyData.depthAll, PyData.depth]
    omega
theorem shaped_strs {ws : List Str} (h : ∀ x ∈ ws, okS x) : SeqAt.shaped (strsD ws) = true := by
  have h1 := depthAll_strs ws
  have h2 : PyData.depth (strsD ws) ≤ 64 := by simp only [strsD, PyData.depth]; omega
  show (PyData.canLay0 (strsD ws) && decide (PyData.depth (strsD ws) ≤ 64)) = true
  rw [Bool.and_eq_true]
  exact ⟨by simp only [strsD, PyData.canLay0]; exact canAll_strs ws h, decide_eq_true h2⟩
/-! worths of words -/
def isYN (w : Str) : Bool := decide (V.str w = V.str "come") || decide (V.str w = V.str "go")
def YN : List (Str × Bool) := [("yes", true), ("no", false)]
def worthsBy (w : Str) (ws : List Str) : List PyData :=
  if isYN w = true then sel (fun (x : Str × Bool) => PyData.eqv (strsD ws) (strsD [x.1])) (fun x => PyData.bool x.2) YN
  else if PyData.eqv (strsD ws) (strsD ["none"]) = true then [.none]
  else if decide (V.str w = V.str "deal") = true then [.tuple (ws.map numD)]
  else (ws.map numD).take (if decide (V.int (ws.length : Int) = V.int 1) then 1 else 0)
def spWorths (K : PySem.W.Frag) : Sp := SpN2 (fun (_ : Str) ws => ws.length ≤ 1000 ∧ ∀ x ∈ ws, okS x) (fun w ws => [pS w, pL (ws.map pS)]) (fun w ws => (worthsBy w ws).map (pD K))
/-! the rule of a text -/
def ruleTry (t w : Str) (f l d : PyData) : Option Rul := match ruleOf (.tuple [.str w, f, l, d]) with
  | some r => if decide (V.str (ruleText r) = V.str t) = true then some r else none
  | none => none
def ruleBy (t : Str) : Option Rul := match Txt.split t SP with
  | w :: f :: l :: ws => if ws.isEmpty then none else (worthsBy w ws).findSome? (ruleTry t w (numD f) (numD l))
  | _ => none
def optD : Option Rul → PyData
  | some r => r.enc
  | none => .none
def spRuleBy (K : PySem.W.Frag) : Sp := SpP1 okS (fun t => [pS t]) (fun t => pD K (optD (ruleBy t)))
theorem worths_yn {w : Str} {ws : List Str} {K : PySem.W.Frag} (h : isYN w = true) : (worthsBy w ws).map (pD K) = sel (fun (x : Str × Bool) => PyData.eqv (strsD ws) (strsD [x.1])) (fun x => pD K (.bool x.2)) YN := by
  unfold worthsBy
  rw [if_pos h]
  unfold sel
  rw [List.map_map]
  rfl
theorem worths_none {w : Str} {ws : List Str} (h : isYN w = false) (h2 : PyData.eqv (strsD ws) (strsD ["none"]) = true) : worthsBy w ws = [.none] := by
  unfold worthsBy
  rw [if_neg (by rw [h]; exact Bool.false_ne_true), if_pos h2]
theorem worths_deal {w : Str} {ws : List Str} (h : isYN w = false) (h2 : PyData.eqv (strsD ws) (strsD ["none"]) = false) (h3 : decide (V.str w = V.str "deal") = true) : worthsBy w ws = [.tuple (ws.map numD)] := by
  unfold worthsBy
  rw [if_neg (by rw [h]; exact Bool.false_ne_true), if_neg (by rw [h2]; exact Bool.false_ne_true), if_pos h3]
theorem worths_else {w : Str} {ws : List Str} (h : isYN w = false) (h2 : PyData.eqv (strsD ws) (strsD ["none"]) = false) (h3 : decide (V.str w = V.str "deal") = false) : worthsBy w ws = (ws.map numD).take (if decide (V.int (ws.length : Int) = V.int 1) then 1 else 0) := by
  unfold worthsBy
  rw [if_neg (by rw [h]; exact Bool.false_ne_true), if_neg (by rw [h2]; exact Bool.false_ne_true), if_neg (by rw [h3]; exact Bool.false_ne_true)]
theorem cut_one {K : PySem.W.Frag} {ds : List PyData} {b : Bool} : cutP (ds.map (pD K)) none (some (if b = true then 1 else 0)) = (ds.take (if b = true then 1 else 0)).map (pD K) := by
  unfold cutP
  rw [HT.sIx_none, List.drop_zero, Nat.sub_zero, ← List.map_take]
  cases b with
  | true =>
    show ((ds.take (HT.sIx (ds.map (pD K)).length (ds.map (pD K)).length (some ((1 : Nat) : Int))))).map (pD K) = _
    rw [HT.sIx_nat, List.length_map]
    congr 1
    rw [if_pos rfl]
    cases ds with
    | nil => rfl
    | cons x t => rw [List.length_cons, Nat.min_eq_left (by omega)]
  | false =>
    show ((ds.take (HT.sIx (ds.map (pD K)).length (ds.map (pD K)).length (some ((0 : Nat) : Int))))).map (pD K) = _
    rw [HT.sIx_nat, Nat.zero_min]
    rfl
theorem cut_three {α : Type} {F : α → Pr} (a b c : α) (t : List α) : cutP ((a :: b :: c :: t).map F) (some 3) none = t.map F := by
  unfold cutP
  rw [show (some (3 : Int)) = some ((3 : Nat) : Int) from rfl, HT.sIx_nat, HT.sIx_none]
  rw [Nat.min_eq_left (by simp only [List.length_map, List.length_cons]; omega)]
  rw [List.map_cons, List.map_cons, List.map_cons, List.drop_succ_cons, List.drop_succ_cons, List.drop_succ_cons, List.drop_zero]
  exact List.take_of_length_le (by simp only [List.length_cons]; omega)
theorem EvO.is {te : TE} {σ : L2.St} {G : Hp} {M M1 : Cells} {ps qs : List Pr} (h : EvO te σ G M M1 ps) (e : ps = qs) : EvO te σ G M M1 qs := e ▸ h
theorem okS_yes : okS "yes" := by unfold okS; decide +kernel
theorem okS_no : okS "no" := by unfold okS; decide +kernel
theorem okS_none : okS "none" := by unfold okS; decide +kernel
theorem shaped_yn {x : Str × Bool} (h : x ∈ YN) : SeqAt.shaped (strsD [x.1]) = true := shaped_strs fun y hy => by
  rw [List.mem_singleton.mp hy]
  simp only [YN, List.mem_cons, List.not_mem_nil, or_false] at h
  rcases h with rfl | rfl
  · exact okS_yes
  · exact okS_no
theorem shaped_none : SeqAt.shaped (strsD ["none"]) = true := shaped_strs fun y hy => by rw [List.mem_singleton.mp hy]; exact okS_none
theorem map_at {α : Type} {F : α → Pr} {xs : List α} {j : Nat} {p : Pr} (h : (xs.map F)[j]? = some p) : ∃ x, xs[j]? = some x ∧ F x = p := by
  rw [List.getElem?_map] at h
  cases e : xs[j]? with
  | none => rw [e] at h; cases h
  | some a => rw [e] at h; exact ⟨a, rfl, Option.some.inj h⟩
theorem by_short {t : Str} (h : decide ((((Txt.split t (Str.ofString " ")).map pS).length : Int) < 4) = true) : ruleBy t = none := by
  rw [List.length_map] at h
  have h1 := of_decide_eq_true h
  unfold ruleBy
  split
  · rename_i w f l ws e
    rw [show Txt.split t (Str.ofString " ") = w :: f :: l :: ws from e] at h1
    cases ws with
    | nil => rfl
    | cons a b => simp only [List.length_cons] at h1; omega
  · rfl
theorem by_long {t : Str} (h : decide ((((Txt.split t (Str.ofString " ")).map pS).length : Int) < 4) = false) : ∃ w f l z ws, Txt.split t SP = w :: f :: l :: z :: ws := by
  rw [List.length_map] at h
  have h1 := of_decide_eq_false h
  match e : Txt.split t SP with
  | w :: f :: l :: z :: ws => exact ⟨w, f, l, z, ws, rfl⟩
  | [] => rw [show Txt.split t (Str.ofString " ") = [] from e] at h1; exact absurd (by decide) h1
  | [a] => rw [show Txt.split t (Str.ofString " ") = [a] from e] at h1; exact absurd (show ((1 : Nat) : Int) < 4 by decide) h1
  | [a, b] => rw [show Txt.split t (Str.ofString " ") = [a, b] from e] at h1; exact absurd (show ((2 : Nat) : Int) < 4 by decide) h1
  | [a, b, c] => rw [show Txt.split t (Str.ofString " ") = [a, b, c] from e] at h1; exact absurd (show ((3 : Nat) : Int) < 4 by decide) h1
theorem try_none {α β : Type} {xs : List α} {f : α → Option β} {j : Nat} {d : α} (hd : xs[j]? = some d) (hn : (xs.take j).findSome? f = none) (h : f d = none) : (xs.take (j + 1)).findSome? f = none := by
  rw [List.take_add_one, hd, List.findSome?_append, hn]
  simp [h]
theorem find_at {α β : Type} {xs : List α} {f : α → Option β} {j : Nat} {d : α} {r : β} (hd : xs[j]? = some d) (hn : (xs.take j).findSome? f = none) (h : f d = some r) : xs.findSome? f = some r := by
  have e : xs = xs.take (j + 1) ++ xs.drop (j + 1) := (List.take_append_drop ..).symm
  rw [e, List.findSome?_append, List.take_add_one, hd, List.findSome?_append, hn]
  simp [h]
theorem by_is {t w f l z : Str} {ws : List Str} (e : Txt.split t SP = w :: f :: l :: z :: ws) : ruleBy t = (worthsBy w (z :: ws)).findSome? (ruleTry t w (numD f) (numD l)) := by
  unfold ruleBy
  rw [e]
  rfl
theorem by_found {t w f l z : Str} {ws : List Str} {j : Nat} {d : PyData} {r : Rul} (e : Txt.split t SP = w :: f :: l :: z :: ws) (hd : (worthsBy w (z :: ws))[j]? = some d)
    (hn : ((worthsBy w (z :: ws)).take j).findSome? (ruleTry t w (numD f) (numD l)) = none) (h : ruleTry t w (numD f) (numD l) d = some r) : optD (ruleBy t) = r.enc := by
  rw [by_is e, find_at hd hn h]
  rfl
theorem by_none {t w f l z : Str} {ws : List Str} (e : Txt.split t SP = w :: f :: l :: z :: ws) (h : (worthsBy w (z :: ws)).findSome? (ruleTry t w (numD f) (numD l)) = none) : optD (ruleBy t) = .none := by
  rw [by_is e, h]
  rfl
theorem day_small {n : Int} (h : isDay (.int n) = true) : small n = true := by
  unfold isDay rngB at h
  simp only [Bool.and_eq_true, decide_eq_true_eq] at h
  unfold small
  rw [Bool.and_eq_true, decide_eq_true_eq, decide_eq_true_eq]
  omega
theorem coins_small {d : PyData} (h : isCoins d = true) : ∃ n, d = .int n ∧ small n = true := by
  obtain ⟨n, rfl⟩ := whole_int (Bool.and_eq_true_iff.mp h).1
  refine ⟨n, rfl, ?_⟩
  unfold isCoins rngB at h
  simp only [Bool.and_eq_true, decide_eq_true_eq] at h
  unfold small
  rw [Bool.and_eq_true, decide_eq_true_eq, decide_eq_true_eq]
  omega
theorem nights_small {d : PyData} (h : isNights d = true) : ∃ n, d = .int n ∧ small n = true := by
  obtain ⟨n, rfl⟩ := nights_int h
  refine ⟨n, rfl, ?_⟩
  unfold isNights rngB at h
  simp only [Bool.and_eq_true, decide_eq_true_eq] at h
  unfold small
  rw [Bool.and_eq_true, decide_eq_true_eq, decide_eq_true_eq]
  omega
theorem deal_small {d : PyData} (h : dealOk d = true) : d = .none ∨ ∃ m n, d = .tuple [.int m, .int n] ∧ small m = true ∧ small n = true := by
  unfold dealOk at h
  split at h
  · exact .inl rfl
  · rename_i x y
    simp only [Bool.and_eq_true] at h
    obtain ⟨m, rfl, hm⟩ := nights_small h.1
    obtain ⟨n, rfl⟩ := whole_int h.2.1
    refine .inr ⟨m, n, rfl, hm, ?_⟩
    have h2 := h.2.2
    unfold freeB at h2
    unfold small at hm ⊢
    simp only [Bool.and_eq_true, decide_eq_true_eq] at h2 hm ⊢
    omega
  · cases h
theorem isTyB_of {d : PyData} (h : isTy "bool" d = true) : ∃ b, d = .bool b := by
  cases d with
  | bool b => exact ⟨b, rfl⟩
  | _ => cases h
theorem words_cases {w : Str} (h : w ∈ WORDS) : w = "price" ∨ w = "come" ∨ w = "go" ∨ w = "least" ∨ w = "most" ∨ w = "deal" ∨ w = "fee" := by
  simpa only [WORDS, List.mem_cons, List.not_mem_nil, or_false] using h
theorem wOk_fits {w : Str} {d : PyData} (hw : w ∈ WORDS) (h : fitsW w d = true) : wOk w d = true := by
  rcases words_cases hw with rfl | rfl | rfl | rfl | rfl | rfl | rfl
  · rw [fits_price, Bool.or_eq_true] at h
    rcases h with h | h
    · rw [isNone_of h]; rfl
    · obtain ⟨n, rfl, hn⟩ := coins_small h
      show (small n && _) = true
      rw [hn]; decide +kernel
  · rw [fits_come] at h
    obtain ⟨b, rfl⟩ := isTyB_of h
    show inV _ _ = true
    decide +kernel
  · rw [fits_go] at h
    obtain ⟨b, rfl⟩ := isTyB_of h
    show inV _ _ = true
    decide +kernel
  · rw [fits_least] at h
    obtain ⟨n, rfl, hn⟩ := nights_small h
    show (small n && _) = true
    rw [hn]; decide +kernel
  · rw [fits_most] at h
    obtain ⟨n, rfl, hn⟩ := nights_small h
    show (small n && _) = true
    rw [hn]; decide +kernel
  · rw [fits_deal] at h
    rcases deal_small h with rfl | ⟨m, n, rfl, hm, hn⟩
    · rfl
    · show (small m && small n && _) = true
      rw [hm, hn]; decide +kernel
  · rw [fits_fee] at h
    obtain ⟨n, rfl, hn⟩ := coins_small h
    show (small n && _) = true
    rw [hn]; decide +kernel
theorem words_len {w : Str} (hw : w ∈ WORDS) : w.length ≤ 10 := by
  rcases words_cases hw with rfl | rfl | rfl | rfl | rfl | rfl | rfl <;> decide
def rulV (r : Rul) : Prop := r.w ∈ WORDS ∧ isStr2 (.int r.f) (.int r.l) = true ∧ fitsW r.w r.d = true
theorem rulV_ok {r : Rul} (h : rulV r) : rOk r = true := by
  obtain ⟨hw, h2, hf⟩ := h
  unfold isStr2 isTwo at h2
  simp only [Bool.and_eq_true] at h2
  unfold rOk
  simp only [Bool.and_eq_true, decide_eq_true_eq]
  exact ⟨⟨⟨wOk_fits hw hf, day_small h2.1.1⟩, day_small h2.1.2⟩, words_len hw⟩
theorem ruleOf_V {x : PyData} {r : Rul} (h : ruleOf x = some r) : rulV r ∧ x = r.enc := by
  unfold ruleOf at h
  split at h
  · rename_i w f l d
    split at h
    · rename_i hh
      simp only [Bool.and_eq_true] at hh
      injection h with h
      subst h
      rw [inV_words] at hh
      exact ⟨⟨of_decide_eq_true hh.1.1, hh.1.2, hh.2⟩, rfl⟩
    · cases h
  · cases h
theorem ruleOf_enc {r : Rul} (h : rulV r) : ruleOf r.enc = some r := by
  obtain ⟨hw, h2, hf⟩ := h
  show ruleOf (.tuple [.str r.w, .int r.f, .int r.l, r.d]) = _
  rw [rule_some hw h2, if_pos hf]
theorem ruleOf_ok {x : PyData} {r : Rul} (h : ruleOf x = some r) : r.w ∈ WORDS ∧ rOk r = true := ⟨(ruleOf_V h).1.1, rulV_ok (ruleOf_V h).1⟩
theorem rl_some {K : PySem.W.Frag} {r : Rul} {v : V} {G : Hp} (h : (pRl K r).h v G) : (!decide (v = .non)) = true := by
  obtain ⟨a, dx, vs, h1, h2, h3⟩ := h
  subst h1
  rfl
end Pm
/-! plain laws of rules and their texts; the law's own helpers -/
namespace Pm
open PySem PySem.Spec L2 Sg Dr
abbrev tS (n : Int) : Str := Str.ofString (toString n)
theorem tl_tS {n : Int} (h : 0 ≤ n) : TL.tl (tS n) = TL.numL n.toNat := by
  obtain ⟨m, rfl⟩ := Int.eq_ofNat_of_zero_le h
  exact TL.tl_num m
theorem numL_head {n : Nat} (h : 0 < n) : ∀ c t, TL.numL n = c :: t → c ≠ 48 := by
  induction n using Nat.strongRecOn with
  | _ n ih =>
    intro c t e
    by_cases h1 : n < 10
    · rw [TL.numL_lt h1] at e
      injection e with e _
      omega
    · rw [TL.numL_step (by omega)] at e
      cases e2 : TL.numL (n / 10) with
      | nil => exact absurd e2 (TL.numL_ne _)
      | cons a b =>
        rw [e2] at e
        injection e with e3 _
        rw [← e3]
        exact ih (n / 10) (by omega) (by omega) a b e2
theorem str_one {w : Str} {c : Nat} (h : w.cps.toList = [c]) : w = ⟨#[c]⟩ := Str.ext' (Array.toList_inj.mp (h.trans rfl))
theorem zero_str : (Str.ofString "0") = ⟨#[48]⟩ := str_one (by decide +kernel)
theorem tS_bad {n : Int} (h : 0 ≤ n) : numBad (tS n) = false := by
  have e := tl_tS h
  unfold numBad
  rw [Bool.or_eq_false_iff, Bool.or_eq_false_iff]
  refine ⟨?_, ?_, ?_⟩
  · rw [decide_eq_false_iff_not]
    intro q
    have q2 : tS n = "" := V.str.inj q
    rw [q2] at e
    exact TL.numL_ne _ (e.symm.trans (by decide +kernel))
  · rw [Bool.not_eq_false', List.all_eq_true]
    intro c hc
    rw [show (tS n).cps.toList = TL.numL n.toNat from e] at hc
    exact (isFig_iff c).mpr (TL.numL_digits _ c hc)
  · unfold zHead
    rw [show (tS n).cps.toList = TL.numL n.toNat from e]
    cases e2 : TL.numL n.toNat with
    | nil => rfl
    | cons c t =>
      by_cases h0 : n = 0
      · subst h0
        show (_ && !decide (V.str (tS 0) = V.str "0")) = false
        rw [show decide (V.str (tS 0) = V.str "0") = true by decide +kernel]
        exact Bool.and_false _
      · have q := numL_head (by omega) c t e2
        have z : decide (V.str ⟨#[c]⟩ = V.str "0") = false := decide_eq_false fun q2 => by
          have q3 := V.str.inj q2
          rw [zero_str] at q3
          exact q (by injection q3 with q3; injection q3 with q3; injection q3)
        show (decide (V.str ⟨#[c]⟩ = V.str "0") && _) = false
        rw [z]
        rfl
theorem tS_val {n : Int} (h : 0 ≤ n) : numVal (tS n) = n := by
  unfold numVal
  rw [show (tS n).cps.toList = TL.numL n.toNat from tl_tS h, TL.numL_val]
  omega
theorem numD_tS {n : Int} (h : 0 ≤ n) : numD (tS n) = .int n := by
  unfold numD
  rw [tS_bad h, tS_val h]
  rfl
theorem tS_free {n : Int} (h : 0 ≤ n) {c : Nat} (hc : c < 48 ∨ 57 < c) : c ∉ TL.tl (tS n) := by
  rw [tl_tS h]
  exact TL.numL_free hc
/-! a rule's text cut -/
def wParts (w : Str) (d : PyData) : List Str := match d with
  | .none => ["none"]
  | .bool b => [if b then "yes" else "no"]
  | .tuple [.int m, .int n] => [tS m, tS n]
  | .int n => [tS n]
  | _ => [Str.empty]
def rParts (r : Rul) : List Str := r.w :: tS r.f :: tS r.l :: wParts r.w r.d
theorem small_lo {n : Int} (h : small n = true) : 0 ≤ n := by
  unfold small at h
  rw [Bool.and_eq_true, decide_eq_true_eq, decide_eq_true_eq] at h
  exact h.1
theorem wOk_cases {w : Str} {d : PyData} (h : wOk w d = true) : d = .none ∨ (∃ b, d = .bool b ∧ isYN w = true) ∨ (∃ n, d = .int n ∧ small n = true ∧ isYN w = false ∧ decide (V.str w = .str "deal") = false) ∨ ∃ m n, d = .tuple [.int m, .int n] ∧ small m = true ∧ small n = true ∧ decide (V.str w = .str "deal") = true := by
  unfold wOk at h
  split at h
  · exact .inl rfl
  · rename_i b
    refine .inr (.inl ⟨b, rfl, ?_⟩)
    rw [show ([.str "come", .str "go"] : List V) = (["come", "go"] : List Str).map V.str from rfl, inV_words] at h
    unfold isYN
    simpa [V.str.injEq] using h
  · rename_i n
    simp only [Bool.and_eq_true, Bool.not_eq_true', Bool.or_eq_false_iff] at h
    refine .inr (.inr (.inl ⟨n, rfl, h.1, ?_, h.2.2.2⟩))
    unfold isYN
    rw [h.2.1, h.2.2.1]
    rfl
  · rename_i m n
    simp only [Bool.and_eq_true] at h
    exact .inr (.inr (.inr ⟨m, n, rfl, h.1.1, h.1.2, h.2⟩))
  · cases h
theorem wparts_join {w : Str} {d : PyData} (h : wOk w d = true) : Str.join SP (wParts w d) = worthText w d := by
  rcases wOk_cases h with rfl | ⟨b, rfl, _⟩ | ⟨n, rfl, _⟩ | ⟨m, n, rfl, _⟩
  · rfl
  · cases b <;> rfl
  · rfl
  · rfl
theorem wparts_cons {w : Str} {d : PyData} (h : wOk w d = true) : ∃ z t, wParts w d = z :: t := by
  rcases wOk_cases h with rfl | ⟨b, rfl, _⟩ | ⟨n, rfl, _⟩ | ⟨m, n, rfl, _⟩ <;> exact ⟨_, _, rfl⟩
theorem text_join {r : Rul} (h : rOk r = true) : ruleText r = Str.join SP (rParts r) := by
  obtain ⟨hw, hf, hl, hz⟩ := rOk_parts h
  obtain ⟨z, t, e⟩ := wparts_cons hw
  unfold ruleText rParts
  rw [← wparts_join hw, e]
  show r.w ++ SP ++ tS r.f ++ SP ++ tS r.l ++ SP ++ Str.join SP (z :: t) = r.w ++ SP ++ (tS r.f ++ SP ++ (tS r.l ++ SP ++ Str.join SP (z :: t)))
  simp only [Str.append_assoc]
theorem words_free {w : Str} (hw : w ∈ WORDS) : 32 ∉ TL.tl w := by
  rcases words_cases hw with rfl | rfl | rfl | rfl | rfl | rfl | rfl <;> decide +kernel
theorem wparts_free {w : Str} {d : PyData} (h : wOk w d = true) : ∀ p ∈ wParts w d, 32 ∉ TL.tl p := by
  rcases wOk_cases h with rfl | ⟨b, rfl, _⟩ | ⟨n, rfl, hn, _⟩ | ⟨m, n, rfl, hm, hn, _⟩
  · intro p hp
    rw [List.mem_singleton.mp hp]
    decide +kernel
  · intro p hp
    rw [List.mem_singleton.mp hp]
    cases b <;> decide +kernel
  · intro p hp
    rw [List.mem_singleton.mp hp]
    exact tS_free (small_lo hn) (.inl (by decide))
  · intro p hp
    rcases List.mem_cons.mp hp with rfl | hp
    · exact tS_free (small_lo hm) (.inl (by decide))
    · rw [List.mem_singleton.mp hp]
      exact tS_free (small_lo hn) (.inl (by decide))
theorem text_split {r : Rul} (hw : r.w ∈ WORDS) (h : rOk r = true) : Txt.split (ruleText r) SP = rParts r := by
  obtain ⟨h1, hf, hl, hz⟩ := rOk_parts h
  rw [text_join h, ← TL.join_eq]
  refine TL.split_join tl_SP (by decide +kernel) (by unfold rParts; simp) fun p hp => ?_
  unfold rParts at hp
  rcases List.mem_cons.mp hp with rfl | hp
  · exact words_free hw
  rcases List.mem_cons.mp hp with rfl | hp
  · exact tS_free (small_lo hf) (.inl (by decide))
  rcases List.mem_cons.mp hp with rfl | hp
  · exact tS_free (small_lo hl) (.inl (by decide))
  exact wparts_free h1 p hp
theorem none_tS {n : Int} (h : 0 ≤ n) : tS n ≠ "none" := fun e => by
  have q : (110 : Nat) ∈ TL.tl (tS n) := by rw [e]; decide +kernel
  exact tS_free h (.inr (by decide)) q
theorem eqv_one (a b : Str) : PyData.eqv (strsD [a]) (strsD [b]) = (a == b) := by simp [strsD, PyData.eqv, PyData.eqvAll]
theorem worths_parts {r : Rul} (hv : rulV r) : worthsBy r.w (wParts r.w r.d) = [r.d] := by
  obtain ⟨w, f, l, d⟩ := r
  obtain ⟨hw, h2, hf⟩ := hv
  have h := wOk_fits hw hf
  show worthsBy w (wParts w d) = [d]
  change fitsW w d = true at hf
  rcases wOk_cases h with rfl | ⟨b, rfl, hb⟩ | ⟨n, rfl, hn, hy, hd⟩ | ⟨m, n, rfl, hm, hn, hd⟩
  · have hy : isYN w = false := by
      rcases words_cases hw with rfl | rfl | rfl | rfl | rfl | rfl | rfl
      · decide +kernel
      · rw [fits_come] at hf; cases hf
      · rw [fits_go] at hf; cases hf
      all_goals decide +kernel
    rw [worths_none hy (by show PyData.eqv (strsD ["none"]) _ = true; rw [eqv_one]; decide +kernel)]
  · have hs : worthsBy w (wParts w (.bool b)) = sel (fun (x : Str × Bool) => PyData.eqv (strsD (wParts w (.bool b))) (strsD [x.1])) (fun x => PyData.bool x.2) YN := by
      unfold worthsBy
      rw [if_pos hb]
    rw [hs]
    cases b
    · show (List.filter (fun (x : Str × Bool) => PyData.eqv (strsD ["no"]) (strsD [x.1])) [("yes", true), ("no", false)]).map _ = _
      rw [List.filter_cons_of_neg (by rw [eqv_one]; decide +kernel), List.filter_cons_of_pos (by rw [eqv_one]; decide +kernel)]
      rfl
    · show (List.filter (fun (x : Str × Bool) => PyData.eqv (strsD ["yes"]) (strsD [x.1])) [("yes", true), ("no", false)]).map _ = _
      rw [List.filter_cons_of_pos (by rw [eqv_one]; decide +kernel), List.filter_cons_of_neg (by rw [eqv_one]; decide +kernel)]
      rfl
  · rw [worths_else hy (by show PyData.eqv (strsD [tS n]) _ = false; rw [eqv_one]; simpa using none_tS (small_lo hn)) hd]
    show ([numD (tS n)]).take _ = _
    rw [numD_tS (small_lo hn)]
    rfl
  · have e : w = "deal" := V.str.inj (of_decide_eq_true hd)
    subst e
    rw [worths_deal (show isYN "deal" = false by decide +kernel) (by simp [wParts, strsD, PyData.eqv, PyData.eqvAll]) hd]
    show [PyData.tuple [numD (tS m), numD (tS n)]] = _
    rw [numD_tS (small_lo hm), numD_tS (small_lo hn)]
theorem by_text {r : Rul} (h : rulV r) : ruleBy (ruleText r) = some r := by
  have hk := rulV_ok h
  obtain ⟨h1, hf, hl, hz⟩ := rOk_parts hk
  obtain ⟨z, t, e⟩ := wparts_cons h1
  have e2 := text_split h.1 hk
  unfold rParts at e2
  rw [e] at e2
  rw [by_is e2, ← e, worths_parts h, numD_tS (small_lo hf), numD_tS (small_lo hl)]
  have q : ruleTry (ruleText r) r.w (.int r.f) (.int r.l) r.d = some r := by
    unfold ruleTry
    rw [show PyData.tuple [.str r.w, .int r.f, .int r.l, r.d] = r.enc from rfl, ruleOf_enc h]
    simp
  simp [q]
/-! the drawn rule is one -/
theorem getD_mem {α : Type} {l : List α} {i : Nat} {d : α} (h : i < l.length) : l.getD i d ∈ l := by
  rw [List.getD_eq_getElem?_getD, List.getElem?_eq_getElem h]
  exact List.getElem_mem h
theorem word_in (r : Dr.Row) : rWord r ∈ WORDS := by
  have h1 := take_lo r (b := 9) (by decide)
  have h2 := take_hi r (b := 9) (by decide)
  have h : rWord r ∈ wordsL := getD_mem (show (take r 9).toNat < 9 by omega)
  simp only [wordsL, List.mem_cons, List.not_mem_nil, or_false] at h
  rcases h with h | h | h | h | h | h | h | h | h <;> rw [h] <;> decide
theorem first_in (r : Dr.Row) (day : Int) : 0 ≤ firstV r day ∧ firstV r day ≤ 1000000 := by
  unfold firstV mn mx
  split <;> split at * <;> omega
theorem span_lo (r : Dr.Row) : 0 ≤ spanV r := by
  have h1 := take_lo (takeR (takeR r 3) 14) (b := 5) (by decide)
  have h2 := take_hi (takeR (takeR r 3) 14) (b := 5) (by decide)
  have h3 := take_lo r (b := 3) (by decide)
  have h4 := take_lo (takeR r 3) (b := 14) (by decide)
  have h : spanV r ∈ [0, take r 3, take (takeR r 3) 14, 60, 1000000] := getD_mem (show (take (takeR (takeR r 3) 14) 5).toNat < 5 by omega)
  simp only [List.mem_cons, List.not_mem_nil, or_false] at h
  rcases h with h | h | h | h | h <;> rw [h] <;> first | omega | assumption
theorem coins_in (r : Dr.Row) : 0 ≤ coins r ∧ coins r ≤ 1000000000000 := by
  have h1 := take_lo (coinsX r) (b := 9) (by decide)
  have h2 := take_hi (coinsX r) (b := 9) (by decide)
  have a1 := take_lo r (b := 10) (by decide)
  have a2 := take_hi r (b := 10) (by decide)
  have b1 := take_lo (takeR r 10) (b := 10) (by decide)
  have b2 := take_hi (takeR r 10) (b := 10) (by decide)
  have c1 := take_lo (takeR (takeR r 10) 10) (b := 1000000) (by decide)
  have c2 := take_hi (takeR (takeR r 10) 10) (b := 1000000) (by decide)
  have d1 := take_lo (takeR (takeR (takeR r 10) 10) 1000000) (b := 1000000) (by decide)
  have d2 := take_hi (takeR (takeR (takeR r 10) 10) 1000000) (b := 1000000) (by decide)
  have h : coins r ∈ coinsL r := getD_mem (show (take (coinsX r) 9 / 2).toNat < 5 by omega)
  simp only [coinsL, List.mem_cons, List.not_mem_nil, or_false] at h
  rcases h with h | h | h | h | h <;> rw [h] <;> omega
theorem free_in (r : Dr.Row) : 1 ≤ freeV r ∧ freeV r < manyV r := by
  have h0 := many_lo r
  have h1 := take_lo (manyR r) (b := manyV r - 1) (by omega)
  have h2 := take_hi (manyR r) (b := manyV r - 1) (by omega)
  unfold freeV
  omega
theorem nights_of {n : Int} (h : 1 ≤ n) (h2 : n ≤ 14) : isNights (.int n) = true := by
  unfold isNights rngB
  rw [Bool.and_eq_true, Bool.and_eq_true, decide_eq_true_eq, decide_eq_true_eq]
  exact ⟨rfl, h, h2⟩
theorem coins_of {n : Int} (h : 0 ≤ n) (h2 : n ≤ 1000000000000) : isCoins (.int n) = true := by
  unfold isCoins rngB
  rw [Bool.and_eq_true, Bool.and_eq_true, decide_eq_true_eq, decide_eq_true_eq]
  exact ⟨rfl, h, h2⟩
theorem day_of {n : Int} (h : 0 ≤ n) (h2 : n ≤ 1000000) : isDay (.int n) = true := by
  unfold isDay rngB
  rw [Bool.and_eq_true, Bool.and_eq_true, decide_eq_true_eq, decide_eq_true_eq]
  exact ⟨rfl, h, h2⟩
theorem worth_fits (r : Dr.Row) {w : Str} (hw : w ∈ WORDS) : fitsW w (worthV r w) = true := by
  have nn : ∀ x : Int, 0 ≤ x → x < 14 → isNights (.int (1 + x)) = true := fun x h h2 => nights_of (by omega) (by omega)
  have hn : isNights (.int (1 + take (takeR r 2) ([4, 14].getD (take r 2).toNat 0))) = true := by
    have h1 := two_lo (r := r) (x := 4) (y := 14) (by decide) (by decide)
    have h2 := two_hi (r := r) (x := 4) (y := 14) (n := 15) (by decide) (by decide)
    have h3 := take_lo (takeR r 2) h1
    have h4 := take_hi (takeR r 2) h1
    exact nn _ h3 (by omega)
  have hc := coins_in r
  rcases words_cases hw with rfl | rfl | rfl | rfl | rfl | rfl | rfl
  · rw [fits_price]
    unfold worthV
    rw [if_neg (by decide +kernel), if_neg (by decide +kernel), if_neg (by decide +kernel), if_pos (by decide +kernel)]
    split
    · rfl
    · rw [coins_of hc.1 hc.2, Bool.or_true]
  · rw [fits_come]
    unfold worthV
    rw [if_pos (by decide +kernel)]
    rfl
  · rw [fits_go]
    unfold worthV
    rw [if_pos (by decide +kernel)]
    rfl
  · rw [fits_least]
    unfold worthV
    rw [if_neg (by decide +kernel), if_pos (by decide +kernel)]
    exact hn
  · rw [fits_most]
    unfold worthV
    rw [if_neg (by decide +kernel), if_pos (by decide +kernel)]
    exact hn
  · rw [fits_deal]
    unfold worthV
    rw [if_neg (by decide +kernel), if_neg (by decide +kernel), if_pos (by decide +kernel)]
    have h1 := take_lo (freeR r) (b := 3) (by decide)
    have h2 := take_hi (freeR r) (b := 3) (by decide)
    have h := getD_mem (l := [PyData.tuple [.int (manyV r), .int (freeV r)], .tuple [.int (manyV r), .int (freeV r)], .none]) (d := .none) (show (take (freeR r) 3).toNat < 3 by omega)
    have m1 := many_lo r
    have m2 := many_hi r
    have hf := free_in r
    have hd : dealOk (.tuple [.int (manyV r), .int (freeV r)]) = true := by
      show (isNights _ && (isWhole _ && freeB _ _)) = true
      rw [nights_of (by omega) m2]
      simp only [freeB, Bool.true_and, Bool.and_eq_true, decide_eq_true_eq]
      exact ⟨rfl, hf⟩
    simp only [List.mem_cons, List.not_mem_nil, or_false] at h
    rcases h with h | h | h <;> rw [h]
    · exact hd
    · exact hd
    · rfl
  · rw [fits_fee]
    unfold worthV
    rw [if_neg (by decide +kernel), if_neg (by decide +kernel), if_neg (by decide +kernel), if_neg (by decide +kernel)]
    exact coins_of hc.1 hc.2
theorem str2_int {f l : Int} (h : 0 ≤ f) (h2 : f ≤ l) (h3 : l ≤ 1000000) : isStr2 (.int f) (.int l) = true := by
  unfold isStr2 isTwo leB
  rw [day_of h (by omega), day_of (by omega) h3]
  simp [h2]
theorem draw_V (r : Dr.Row) (day : Int) : rulV (ruleV r day) := by
  have h1 := first_in (rA1 r) day
  have h2 := span_lo (aheadR (rA1 r))
  refine ⟨word_in r, str2_int h1.1 ?_ ?_, worth_fits _ (word_in r)⟩
  · show firstV (rA1 r) day ≤ mn 1000000 _
    unfold mn
    split <;> omega
  · show mn 1000000 _ ≤ 1000000
    unfold mn
    split <;> omega
end Pm
/-! the laws' own helpers: mirrors and promises -/
namespace Pm
open PySem PySem.Spec L2 Sg Dr
def beginR (c : Int) : Dr.Row := if c ≥ 1000000000000000000 then ⟨c - 1000000000000000000, 0, by omega⟩ else ⟨0, c % 2147483629 + 11, by omega⟩
def spBegin : Sp := SpN1 (fun (_ : Int) => True) (fun c => [pI c]) (fun c => [pI (beginR c).a, pI (beginR c).b])
def spFig : Sp := SpP1 (fun (n : Int) => small n = true) (fun n => [pI n]) (fun n => pS (tS n))
def FigI (n m : Nat) (s : Str) : Prop := (0 < m → TL.numL n = TL.numL m ++ TL.tl s) ∧ (m = 0 → (n = 0 ∧ TL.tl s = []) ∨ (0 < n ∧ TL.tl s = TL.numL n))
theorem fig_0 (n : Nat) : FigI n n "" := ⟨fun _ => by rw [show TL.tl (Str.ofString "") = [] by decide +kernel, List.append_nil], fun h => .inl ⟨h, by decide +kernel⟩⟩
theorem fig_step {n m : Nat} {s : Str} (h : FigI n m s) (hm : 0 < m) : FigI n (m / 10) ((⟨#[48 + m % 10]⟩ : Str) ++ s) := by
  have h1 := h.1 hm
  have e : TL.tl ((⟨#[48 + m % 10]⟩ : Str) ++ s) = [48 + m % 10] ++ TL.tl s := TL.tl_append _ _
  have hn : 0 < n := by
    cases n with
    | zero =>
      exfalso
      have h2 : TL.numL 0 = [48] := TL.numL_lt (by decide)
      rw [h2] at h1
      cases e3 : TL.numL m with
      | nil => exact TL.numL_ne _ e3
      | cons a b =>
        rw [e3] at h1
        injection h1 with h1 _
        exact numL_head hm a b e3 h1.symm
    | succ k => omega
  refine ⟨fun h2 => ?_, fun h2 => .inr ⟨hn, ?_⟩⟩
  · rw [h1, e, TL.numL_step (by omega), List.append_assoc]
  · rw [h1, e, TL.numL_lt (show m < 10 by omega), Nat.mod_eq_of_lt (by omega)]
theorem fig_at (m : Nat) : atI FIG.cps.toList ((m : Int) % 10) = some (48 + m % 10) := by
  have e : ((m : Int) % 10) = ((m % 10 : Nat) : Int) := by omega
  have hl : FIG.cps.toList = [48, 49, 50, 51, 52, 53, 54, 55, 56, 57] := by decide +kernel
  rw [e, hl, atI_nat _ _ (by simp only [List.length_cons, List.length_nil]; omega)]
  have hm : m % 10 < 10 := Nat.mod_lt _ (by decide)
  generalize m % 10 = k at hm
  match k, hm with
  | 0, _ => rfl
  | 1, _ => rfl
  | 2, _ => rfl
  | 3, _ => rfl
  | 4, _ => rfl
  | 5, _ => rfl
  | 6, _ => rfl
  | 7, _ => rfl
  | 8, _ => rfl
  | 9, _ => rfl
theorem tS_len {n : Int} (h : small n = true) : (TL.numL n.toNat).length ≤ 13 := by
  have := small_len h
  rw [TL.len_tl, tl_tS (small_lo h)] at this
  exact this
theorem fig_len {n : Int} {m : Nat} {s : Str} (hs : small n = true) (h : FigI n.toNat m s) : s.length ≤ 13 := by
  have h1 := tS_len hs
  rw [TL.len_tl]
  by_cases hm : 0 < m
  · rw [h.1 hm, List.length_append] at h1
    omega
  · rcases h.2 (by omega) with ⟨_, e⟩ | ⟨_, e⟩ <;> rw [e]
    · exact Nat.zero_le _
    · exact h1
theorem fig_done {n : Int} {s : Str} (hs : small n = true) (h : FigI n.toNat 0 s) : (if s.length = 0 then (Str.ofString "0") else s) = tS n := by
  have h0 := small_lo hs
  rcases h.2 rfl with ⟨h1, e⟩ | ⟨h1, e⟩
  · rw [if_pos (by rw [TL.len_tl, e]; rfl)]
    have : n = 0 := by omega
    rw [this]
    decide +kernel
  · rw [if_neg (by rw [TL.len_tl, e]; have := TL.numL_ne n.toNat; exact fun q => this (List.length_eq_zero_iff.mp q))]
    exact TL.ext_tl (by rw [e, tl_tS h0])
def spLText (K : PySem.W.Frag) : Sp := SpP1 (fun r => rOk r = true) (fun r => [pD K r.enc]) (fun r => pS (ruleText r))
theorem inYN {w : Str} : inV (.str w) [.str "come", .str "go"] = isYN w := by
  rw [show ([.str "come", .str "go"] : List V) = (["come", "go"] : List Str).map V.str from rfl, inV_words]
  unfold isYN
  simp [V.str.injEq]
theorem parts_len {r : Rul} (h : rOk r = true) : ((rParts r).map (·.length)).sum + (rParts r).length * SP.length ≤ 16777216 := by
  obtain ⟨hw, hf, hl, hz⟩ := rOk_parts h
  have h1 : (tS r.f).length ≤ 13 := small_len hf
  have h2 : (tS r.l).length ≤ 13 := small_len hl
  have e : SP.length = 1 := by decide
  unfold rParts
  rcases wOk_cases hw with q | ⟨b, q, _⟩ | ⟨n, q, hn, _⟩ | ⟨m, n, q, hm, hn, _⟩ <;> rw [q] <;> unfold wParts <;> simp only [List.map_cons, List.map_nil, List.sum_cons, List.sum_nil, List.length_cons, List.length_nil, e]
  · have : (Str.ofString "none").length = 4 := by decide
    omega
  · have h3 : (if b = true then (Str.ofString "yes") else "no").length ≤ 3 := by cases b <;> decide
    omega
  · have h3 : (tS n).length ≤ 13 := small_len hn
    omega
  · have h3 : (tS m).length ≤ 13 := small_len hm
    have h4 : (tS n).length ≤ 13 := small_len hn
    omega
/-! the same thing twice -/
def okS0 : PyData → Bool
  | .none => true
  | .bool _ => true
  | .int _ => true
  | .str s => PyData.strOk s
  | _ => false
def okD : Nat → PyData → Bool
  | k + 1, .tuple ds => decide (ds.length ≤ 1000) && ds.all (okD k)
  | _, d => okS0 d
def spSame (K : PySem.W.Frag) : Nat → Sp
  | 0 => fun _ _ _ _ => False
  | k + 1 => SpP1 (fun d => okD k d = true) (fun d => [pD K d, pD K d]) (fun _ => pB true)
theorem okD_flat {k : Nat} {d : PyData} (h : okD k d = true) (ht : isTy "tuple" d = false) : okS0 d = true := by
  cases d with
  | tuple ds => rw [isTy_tuple] at ht; cases ht
  | _ => cases k <;> exact h
theorem okS0_sh {d : PyData} (h : okS0 d = true) : SeqAt.shaped d = true := by
  cases d with
  | str s =>
    show (PyData.canLay0 _ && decide (PyData.depth _ ≤ 64)) = true
    simp only [PyData.canLay0, PyData.depth]
    rw [show PyData.strOk s = true from h]
    rfl
  | none => decide +kernel
  | bool b => cases b <;> decide +kernel
  | int n =>
    show (PyData.canLay0 _ && decide (PyData.depth _ ≤ 64)) = true
    simp only [PyData.canLay0, PyData.depth]
    rfl
  | _ => cases h
theorem okS0_eqv {d : PyData} (h : okS0 d = true) : PyData.eqv d d = true := by
  cases d with
  | none => simp [PyData.eqv]
  | bool b => simp [PyData.eqv]
  | int n => simp [PyData.eqv]
  | str s => simp [PyData.eqv]
  | _ => cases h
theorem okD_tup {k : Nat} {ds : List PyData} (h : okD k (.tuple ds) = true) : ∃ j, k = j + 1 ∧ ds.length ≤ 1000 ∧ ∀ d ∈ ds, okD j d = true := by
  cases k with
  | zero => cases h
  | succ j =>
    have h : (decide (ds.length ≤ 1000) && ds.all (okD j)) = true := h
    rw [Bool.and_eq_true, decide_eq_true_eq, List.all_eq_true] at h
    exact ⟨j, rfl, h.1, h.2⟩
theorem ty_tup {d : PyData} (h : isTy "tuple" d = true) : ∃ ds, d = .tuple ds := by
  cases d with
  | tuple ds => exact ⟨ds, rfl⟩
  | _ => cases h
theorem Iw.is {it : TI} {σ : L2.St} {G : Hp} {M M' : Cells} {ps qs : List Pr} (h : Iw it σ G M M' ps) (e : ps = qs) : Iw it σ G M M' qs := e ▸ h
theorem zip_self {K : PySem.W.Frag} : ∀ ds : List PyData, (((ds.map (pD K)).zip (ds.map (pD K))).map fun q => pT K [q.1, q.2]) = ds.map fun d => pT K [pD K d, pD K d]
  | [] => rfl
  | d :: r => congrArg (pT K [pD K d, pD K d] :: ·) (zip_self r)
theorem words_ok {w : Str} (hw : w ∈ WORDS) : PyData.strOk w = true := by
  rcases words_cases hw with rfl | rfl | rfl | rfl | rfl | rfl | rfl <;> decide +kernel
theorem worth_ok {w : Str} {d : PyData} (h : wOk w d = true) : okD 1 d = true := by
  rcases wOk_cases h with q | ⟨b, q, _⟩ | ⟨n, q, hn, _⟩ | ⟨m, n, q, hm, hn, _⟩ <;> rw [q] <;> rfl
theorem enc_ok {r : Rul} (h : rulV r) : okD 2 r.enc = true := by
  have h1 := worth_ok (wOk_fits h.1 h.2.2)
  have h2 : okD 1 (.str r.w) = true := words_ok h.1
  show (decide ((4 : Nat) ≤ 1000) && (okD 1 (.str r.w) && (okD 1 (.int r.f) && (okD 1 (.int r.l) && (okD 1 r.d && true))))) = true
  rw [h1, h2]
  rfl
def spLaw (K : PySem.W.Frag) : Sp := SpP1 (fun ns : List Int => ns.length ≤ 63) (fun ns => [pQ K (ns.map pI)]) (fun _ => pB true)
theorem cut_map {α : Type} {F : α → Pr} (xs : List α) (lo hi : Option Int) : ∃ ys : List α, cutP (xs.map F) lo hi = ys.map F ∧ ys.length ≤ xs.length := by
  unfold cutP
  rw [← List.map_drop, ← List.map_take]
  exact ⟨_, rfl, by rw [List.length_take, List.length_drop]; omega⟩
theorem cells_at {ns : List Int} {j : Nat} {p : Pr} (h : ([pI 0] ++ cutP (ns.map pI) none (some 60))[j]? = some p) : ∃ n, p = pI n := by
  obtain ⟨ys, e, _⟩ := cut_map (F := pI) ns none (some 60)
  rw [e, show [pI 0] ++ ys.map pI = (0 :: ys).map pI from rfl] at h
  obtain ⟨x, _, q⟩ := map_at h
  exact ⟨x, q.symm⟩
theorem cells_len {ns : List Int} (h : ns.length ≤ 63) : ([pI 0] : List Pr).length + (cutP (ns.map pI) none (some 60)).length ≤ 100000 := by
  obtain ⟨ys, e, hl⟩ := cut_map (F := pI) ns none (some 60)
  rw [e, List.length_map, List.length_cons, List.length_nil]
  omega
theorem okS_rtext {r : Rul} (h : rulV r) : okS (ruleText r) := by
  have hk := rulV_ok h
  refine ⟨Nat.le_trans (rtext_len hk) (by decide), ?_⟩
  obtain ⟨hw, hf, hl, hz⟩ := rOk_parts hk
  have key : ∀ n : Int, small n = true → PyData.strOk (tS n) = true := fun n hn => by
    unfold PyData.strOk
    rw [← Array.all_toList, List.all_eq_true]
    intro c hc
    rw [show (tS n).cps.toList = TL.numL n.toNat from tl_tS (small_lo hn)] at hc
    have := TL.numL_digits _ c hc
    rw [decide_eq_true_eq]
    omega
  have app : ∀ a b : Str, PyData.strOk a = true → PyData.strOk b = true → PyData.strOk (a ++ b) = true := fun a b h1 h2 => by
    unfold PyData.strOk at *
    rw [← Array.all_toList, List.all_eq_true] at *
    intro c hc
    rw [show (a ++ b).cps.toList = a.cps.toList ++ b.cps.toList from TL.tl_append a b] at hc
    rcases List.mem_append.mp hc with q | q
    · exact h1 c q
    · exact h2 c q
  have hsp : PyData.strOk (Str.ofString " ") = true := by decide +kernel
  have hwt : PyData.strOk (worthText r.w r.d) = true := by
    rcases wOk_cases hw with q | ⟨b, q, _⟩ | ⟨n, q, hn, _⟩ | ⟨m, n, q, hm, hn, _⟩ <;> rw [q]
    · show PyData.strOk (Str.ofString "none") = true
      decide +kernel
    · show PyData.strOk (if b = true then (Str.ofString "yes") else "no") = true
      cases b <;> decide +kernel
    · exact key n hn
    · exact app _ _ (app _ _ (key m hm) hsp) (key n hn)
  exact app _ _ (app _ _ (app _ _ (app _ _ (app _ _ (app _ _ (words_ok h.1) hsp) (key _ hf)) hsp) (key _ hl)) hsp) hwt
theorem als_pV {G : Hp} : ∀ vs : List V, Als G (vs.map pV) vs
  | [] => trivial
  | v :: r => ⟨rfl, als_pV r⟩
theorem als_pI {G : Hp} : ∀ ns : List Int, Als G (ns.map pI) (ns.map V.int)
  | [] => trivial
  | v :: r => ⟨rfl, als_pI r⟩
section
variable {K : PySem.W.Frag}
theorem cAd_price : cAd K "price" = He.ga K "Price" := by unfold cAd; rw [if_pos (by decide)]
theorem cAd_come : cAd K "come" = He.ga K "Come" := by unfold cAd; rw [if_neg (by decide), if_pos (by decide)]
theorem cAd_go : cAd K "go" = He.ga K "Go" := by unfold cAd; rw [if_neg (by decide), if_neg (by decide), if_pos (by decide)]
theorem cAd_least : cAd K "least" = He.ga K "Least" := by unfold cAd; rw [if_neg (by decide), if_neg (by decide), if_neg (by decide), if_pos (by decide)]
theorem cAd_most : cAd K "most" = He.ga K "Most" := by unfold cAd; rw [if_neg (by decide), if_neg (by decide), if_neg (by decide), if_neg (by decide), if_pos (by decide)]
theorem cAd_deal : cAd K "deal" = He.ga K "Deal" := by unfold cAd; rw [if_neg (by decide), if_neg (by decide), if_neg (by decide), if_neg (by decide), if_neg (by decide), if_pos (by decide)]
theorem cAd_fee : cAd K "fee" = He.ga K "Fee" := by unfold cAd; rw [if_neg (by decide), if_neg (by decide), if_neg (by decide), if_neg (by decide), if_neg (by decide), if_neg (by decide)]
theorem law_end {H : Hp} {a : Addr} {ns : List Int} {E : XK} (hl : ns.length ≤ 63) (hS : SqL K H a (ns.map V.int)) : spLaw K [.ref a] H (fun v _ => v = .bl true) E :=
  ⟨ns, H, [], hl, ⟨⟨a, _, rfl, hS, als_pI ns⟩, trivial⟩, At.nil H, fun v G' H' _ _ hv => hv⟩
end
end Pm
/-! texts of no rule: what a text writes, read word by word -/
namespace Pm
open PySem PySem.Spec L2 Sg Dr
theorem digits_back : ∀ (n : Nat) (cs : List Nat), cs.length = n → NumText.AllDigits cs → cs ≠ [] → (∀ t, cs = 48 :: t → t = []) → TL.numL (NumText.digitsVal cs) = cs := by
  intro n
  induction n with
  | zero =>
    intro cs h1 _ h2
    exact absurd (List.length_eq_zero_iff.mp h1) h2
  | succ n ih =>
    intro cs h1 hd hne h0
    have e : cs = cs.dropLast ++ [cs.getLast hne] := (List.dropLast_concat_getLast hne).symm
    have hc := hd (cs.getLast hne) (List.getLast_mem hne)
    generalize hl : cs.getLast hne = c at e hc
    generalize hq : cs.dropLast = q at e
    rw [e, NumText.digitsVal_snoc]
    cases q with
    | nil =>
      show TL.numL (0 * 10 + (c - 48)) = [c]
      rw [TL.numL_lt (by omega)]
      congr 1
      omega
    | cons a b =>
      have hn : (a :: b).length = n := by
        rw [e, List.length_append, List.length_singleton] at h1
        omega
      have ha : a ≠ 48 := fun ea => by
        have := h0 (b ++ [c]) (by rw [e, ea]; rfl)
        simp at this
      have hdq : NumText.AllDigits (a :: b) := fun d hd2 => hd d (by rw [e]; exact List.mem_append_left _ hd2)
      have r := ih (a :: b) hn hdq (by simp) (fun t et => absurd (List.cons.inj et).1 ha)
      have pos : 1 ≤ NumText.digitsVal (a :: b) := by
        cases hv : NumText.digitsVal (a :: b) with
        | zero =>
          rw [hv, TL.numL_lt (by decide)] at r
          exact absurd (List.cons.inj r).1.symm (by omega)
        | succ k => omega
      rw [TL.numL_step (by omega), show (NumText.digitsVal (a :: b) * 10 + (c - 48)) / 10 = NumText.digitsVal (a :: b) by omega, r]
      congr 2
      omega
theorem num_back {w : Str} (h : numBad w = false) : 0 ≤ numVal w ∧ tS (numVal w) = w := by
  have h9 := h
  unfold numBad at h
  rw [Bool.or_eq_false_iff, Bool.or_eq_false_iff] at h
  obtain ⟨h1, h2, h3⟩ := h
  obtain ⟨c, t, e⟩ := ne_cps h1
  rw [Bool.not_eq_false', List.all_eq_true] at h2
  refine ⟨by unfold numVal; omega, TL.ext_tl ?_⟩
  show TL.tl (tS ((NumText.digitsVal w.cps.toList : Nat) : Int)) = TL.tl w
  rw [tl_tS (by omega), Int.toNat_natCast]
  refine digits_back _ w.cps.toList rfl (fun d hd => (isFig_iff d).mp (h2 d hd)) (by rw [e]; simp) fun q hq => ?_
  rw [e] at hq
  obtain ⟨rfl, rfl⟩ := List.cons.inj hq
  unfold zHead at h3
  rw [e] at h3
  have h3 : (decide (V.str ⟨#[48]⟩ = V.str "0") && !decide (V.str w = V.str "0")) = false := h3
  rw [show decide (V.str ⟨#[48]⟩ = V.str "0") = true from decide_eq_true (by rw [zero_str]), Bool.true_and, Bool.not_eq_false'] at h3
  have ew : w = "0" := V.str.inj (of_decide_eq_true h3)
  rw [ew, zero_str] at e
  exact (List.cons.inj e).2.symm
def numI (w : Str) : Int := if numBad w = true then -1 else numVal w
theorem numI_cases (w : Str) : (numD w = .none ∧ numI w = -1) ∨ (0 ≤ numI w ∧ numD w = .int (numI w) ∧ tS (numI w) = w) := by
  unfold numD numI
  cases h : numBad w with
  | true => exact .inl ⟨rfl, rfl⟩
  | false =>
    obtain ⟨h1, h2⟩ := num_back h
    exact .inr ⟨h1, rfl, h2⟩
/-! the worth that the words write -/
def pairD (m f : Int) : PyData := if (decide (2 ≤ m) && decide (m ≤ 14)) = true then (if (decide (1 ≤ f) && decide (f < m)) = true then .tuple [.int m, .int f] else .int (-1)) else .int (-1)
def isPD (w : Str) : Bool := inV (.str w) [.str "price", .str "deal"]
def isPF (w : Str) : Bool := inV (.str w) [.str "price", .str "fee"]
def isLM (w : Str) : Bool := inV (.str w) [.str "least", .str "most"]
def ynD (x : Str) : PyData := if decide (V.str x = V.str "yes") = true then .bool true else if decide (V.str x = V.str "no") = true then .bool false else .int (-1)
def oneD (w x : Str) : PyData :=
  if (decide (V.str x = V.str "none") && isPD w) = true then .none
  else if isYN w = true then ynD x
  else if (isPF w && decide (numI x ≤ 1000000000000)) = true then .int (numI x)
  else if (isLM w && (decide (1 ≤ numI x) && decide (numI x ≤ 14))) = true then .int (numI x)
  else .int (-1)
def worthDue (w : Str) (ws : List Str) : PyData := match ws with
  | [a, b] => if decide (V.str w = V.str "deal") = true then pairD (numI a) (numI b) else .int (-1)
  | [x] => oneD w x
  | _ => .int (-1)
theorem wparts_int {w : Str} {n : Int} : wParts w (.int n) = [tS n] := rfl
theorem beq_str (a b : Str) : (a == b) = decide (V.str a = V.str b) := by
  by_cases h : a = b
  · subst h; simp
  · rw [show (a == b) = false by simpa using h, decide_eq_false (fun e => h (V.str.inj e))]
theorem eqv_two (a : Str) (b c : Str) (t : List Str) : PyData.eqv (strsD (b :: c :: t)) (strsD [a]) = false := by
  simp [strsD, PyData.eqv, PyData.eqvAll]
theorem eqv_nil (a : Str) : PyData.eqv (strsD []) (strsD [a]) = false := by simp [strsD, PyData.eqv, PyData.eqvAll]
theorem coins_int {n : Int} : isCoins (.int n) = (decide (0 ≤ n) && decide (n ≤ 1000000000000)) := by
  unfold isCoins
  show (true && rngB 0 1000000000000 (.int n)) = _
  rfl
theorem nights_int' {n : Int} : isNights (.int n) = (decide (1 ≤ n) && decide (n ≤ 14)) := by
  unfold isNights
  show (true && rngB 1 14 (.int n)) = _
  rfl
def Good (w : Str) (ws : List Str) : Prop := (∃ d, worthsBy w ws = [d] ∧ fitsW w d = true ∧ worthDue w ws = d ∧ wParts w d = ws) ∨ (worthDue w ws = .int (-1) ∧ ∀ d ∈ worthsBy w ws, fitsW w d = false ∨ wParts w d ≠ ws)
theorem wp_none {w x : Str} (h : decide (V.str x = V.str "none") = false) : wParts w .none ≠ [x] := fun e => by
  have : (Str.ofString "none") = x := (List.cons.inj e).1
  rw [← this] at h
  simp at h
theorem good_yn {w : Str} (hw : isYN w = true) (hpd : isPD w = false) (hf : ∀ d, fitsW w d = isTy "bool" d) (hdl : decide (V.str w = V.str "deal") = false) (ws : List Str) : Good w ws := by
  have hs : worthsBy w ws = sel (fun (x : Str × Bool) => PyData.eqv (strsD ws) (strsD [x.1])) (fun x => PyData.bool x.2) YN := by
    unfold worthsBy
    rw [if_pos hw]
  have nil : (∀ x ∈ YN, PyData.eqv (strsD ws) (strsD [x.1]) = false) → worthsBy w ws = [] := fun h => by
    rw [hs]
    unfold sel
    rw [List.filter_eq_nil_iff.mpr fun x hx => by rw [h x hx]; exact Bool.false_ne_true]
    rfl
  match ws with
  | [] => exact .inr ⟨rfl, by rw [nil fun x _ => eqv_nil _]; intro d hd; cases hd⟩
  | [x] =>
    have hd : worthDue w [x] = ynD x := by
      show oneD w x = _
      unfold oneD
      rw [hpd, Bool.and_false, if_neg Bool.false_ne_true, if_pos hw]
    by_cases h1 : x = "yes"
    · subst h1
      refine .inl ⟨.bool true, ?_, by rw [hf]; rfl, by rw [hd]; exact if_pos (by decide +kernel), rfl⟩
      rw [hs]
      show (List.filter (fun (x : Str × Bool) => PyData.eqv (strsD ["yes"]) (strsD [x.1])) [("yes", true), ("no", false)]).map _ = _
      rw [List.filter_cons_of_pos (by rw [eqv_one]; decide +kernel), List.filter_cons_of_neg (by rw [eqv_one]; decide +kernel)]
      rfl
    · by_cases h2 : x = "no"
      · subst h2
        refine .inl ⟨.bool false, ?_, by rw [hf]; rfl, by rw [hd]; exact (if_neg (by decide +kernel)).trans (if_pos (by decide +kernel)), rfl⟩
        rw [hs]
        show (List.filter (fun (x : Str × Bool) => PyData.eqv (strsD ["no"]) (strsD [x.1])) [("yes", true), ("no", false)]).map _ = _
        rw [List.filter_cons_of_neg (by rw [eqv_one]; decide +kernel), List.filter_cons_of_pos (by rw [eqv_one]; decide +kernel)]
        rfl
      · refine .inr ⟨?_, ?_⟩
        · rw [hd]
          unfold ynD
          rw [if_neg (by simpa [V.str.injEq] using h1), if_neg (by simpa [V.str.injEq] using h2)]
        · rw [nil fun y hy => by
            rw [eqv_one]
            simp only [YN, List.mem_cons, List.not_mem_nil, or_false] at hy
            rcases hy with rfl | rfl
            · simpa using h1
            · simpa using h2]
          intro d hd
          cases hd
  | a :: b :: t =>
    refine .inr ⟨?_, by rw [nil fun x _ => eqv_two _ _ _ _]; intro d hd; cases hd⟩
    cases t with
    | nil =>
      show (if _ then _ else _) = _
      rw [if_neg (by rw [hdl]; exact Bool.false_ne_true)]
    | cons _ _ => rfl
theorem len_one {ws : List Str} : decide (V.int (ws.length : Int) = V.int 1) = decide (ws.length = 1) := by
  by_cases h : ws.length = 1
  · rw [h]; rfl
  · rw [decide_eq_false h, decide_eq_false fun e => h (by have := V.int.inj e; omega)]
/-- the words with one number -/
theorem good_num {w : Str} (hyn : isYN w = false) (hdl : decide (V.str w = V.str "deal") = false) (ok : Int → Bool) (hf : ∀ n, fitsW w (.int n) = ok n) (h0 : ∀ n, ok n = true → 0 ≤ n)
    (hn : fitsW w .none = isPD w) (hone : ∀ x, (decide (V.str x = V.str "none") && isPD w) = false → oneD w x = if ok (numI x) = true then .int (numI x) else .int (-1)) (ws : List Str) : Good w ws := by
  have long : ∀ ws, ws.length ≠ 1 → Good w ws := fun ws h => by
    refine .inr ⟨?_, ?_⟩
    · unfold worthDue
      split
      · rw [if_neg (by rw [hdl]; exact Bool.false_ne_true)]
      · exact absurd rfl h
      · rfl
    · have hq : PyData.eqv (strsD ws) (strsD ["none"]) = false := by
        match ws, h with
        | [], _ => exact eqv_nil _
        | [_], h => exact absurd rfl h
        | a :: b :: t, _ => exact eqv_two _ _ _ _
      rw [worths_else hyn hq hdl, len_one, decide_eq_false h]
      intro d hd
      cases hd
  match ws with
  | [] => exact long [] (by decide)
  | a :: b :: t => exact long (a :: b :: t) (by simp)
  | [x] =>
    cases hx : decide (V.str x = V.str "none") with
    | true =>
      have ex : x = "none" := V.str.inj (of_decide_eq_true hx)
      subst ex
      have hws : worthsBy w ["none"] = [.none] := worths_none hyn (by rw [eqv_one]; decide +kernel)
      cases hp : isPD w with
      | true =>
        refine .inl ⟨.none, hws, by rw [hn, hp], ?_, rfl⟩
        show oneD w "none" = _
        unfold oneD
        rw [if_pos (by rw [hx, hp]; rfl)]
      | false =>
        refine .inr ⟨?_, ?_⟩
        · show oneD w "none" = _
          rw [hone _ (by rw [hp, Bool.and_false])]
          have e : numI "none" = -1 := by decide +kernel
          rw [e]
          split
          · rfl
          · rfl
        · rw [hws]
          intro d hd
          rw [List.mem_singleton.mp hd, hn, hp]
          exact .inl rfl
    | false =>
      have hq : PyData.eqv (strsD [x]) (strsD ["none"]) = false := by rw [eqv_one, beq_str, hx]
      have hws : worthsBy w [x] = [numD x] := by
        rw [worths_else hyn hq hdl]
        rfl
      have ho : worthDue w [x] = if ok (numI x) = true then .int (numI x) else .int (-1) := hone x (by rw [hx, Bool.false_and])
      rcases numI_cases x with ⟨e1, e2⟩ | ⟨e0, e1, e2⟩
      · have hk : ok (-1) = false := by
          cases hk : ok (-1) with
          | true => exact absurd (h0 _ hk) (by decide)
          | false => rfl
        refine .inr ⟨by rw [ho, e2, hk]; rfl, ?_⟩
        rw [hws, e1]
        intro d hd
        rw [List.mem_singleton.mp hd]
        exact .inr (wp_none hx)
      · cases hk : ok (numI x) with
        | true => exact .inl ⟨.int (numI x), by rw [hws, e1], by rw [hf, hk], by rw [ho, hk]; rfl, by rw [wparts_int, e2]⟩
        | false =>
          refine .inr ⟨by rw [ho, hk]; rfl, ?_⟩
          rw [hws, e1]
          intro d hd
          rw [List.mem_singleton.mp hd, hf, hk]
          exact .inl rfl
theorem deal_tup {ds : List PyData} : dealOk (.tuple ds) = match ds with
    | [x, y] => isNights x && (isWhole y && freeB x y)
    | _ => false := by
  unfold dealOk
  split
  · contradiction
  · rename_i e; injection e with e; subst e; rfl
  · rename_i h1 h2
    split
    · rename_i x y; exact absurd rfl (h2 x y)
    · rfl
theorem good_deal (ws : List Str) : Good "deal" ws := by
  have hyn : isYN "deal" = false := by decide +kernel
  have hd : decide (V.str "deal" = V.str "deal") = true := by decide +kernel
  have hpd : isPD "deal" = true := by decide +kernel
  match ws with
  | [] =>
    refine .inr ⟨rfl, ?_⟩
    rw [worths_deal hyn (eqv_nil _) hd]
    intro d h
    rw [List.mem_singleton.mp h, fits_deal, deal_tup]
    exact .inl rfl
  | [x] =>
    cases hx : decide (V.str x = V.str "none") with
    | true =>
      have ex : x = "none" := V.str.inj (of_decide_eq_true hx)
      subst ex
      refine .inl ⟨.none, worths_none hyn (by rw [eqv_one]; decide +kernel), by rw [fits_deal]; rfl, ?_, rfl⟩
      show oneD "deal" "none" = _
      unfold oneD
      rw [if_pos (by rw [hx, hpd]; rfl)]
    | false =>
      refine .inr ⟨?_, ?_⟩
      · show oneD "deal" x = _
        unfold oneD
        rw [hx, Bool.false_and, if_neg Bool.false_ne_true, if_neg (by rw [hyn]; exact Bool.false_ne_true), if_neg (by rw [show isPF "deal" = false by decide +kernel, Bool.false_and]; exact Bool.false_ne_true),
          if_neg (by rw [show isLM "deal" = false by decide +kernel, Bool.false_and]; exact Bool.false_ne_true)]
      · rw [worths_deal hyn (by rw [eqv_one, beq_str, hx]) hd]
        intro d h
        rw [List.mem_singleton.mp h, fits_deal, deal_tup]
        exact .inl rfl
  | a :: b :: c :: t =>
    refine .inr ⟨rfl, ?_⟩
    rw [worths_deal hyn (eqv_two _ _ _ _) hd]
    intro d h
    rw [List.mem_singleton.mp h, fits_deal, deal_tup]
    exact .inl rfl
  | [a, b] =>
    have hws := worths_deal (ws := [a, b]) hyn (eqv_two _ _ _ _) hd
    have hdue : worthDue "deal" [a, b] = pairD (numI a) (numI b) := by
      unfold worthDue
      exact if_pos hd
    have bad : worthDue "deal" [a, b] = .int (-1) → dealOk (.tuple [numD a, numD b]) = false → Good "deal" [a, b] := fun h1 h2 => by
      refine .inr ⟨h1, ?_⟩
      rw [hws]
      intro d h
      rw [List.mem_singleton.mp h, fits_deal]
      exact .inl h2
    rcases numI_cases a with ⟨e1, e2⟩ | ⟨e0, e1, e2⟩
    · refine bad ?_ ?_
      · rw [hdue, e2]; rfl
      · rw [e1]; rfl
    · rcases numI_cases b with ⟨g1, g2⟩ | ⟨g0, g1, g2⟩
      · refine bad ?_ ?_
        · rw [hdue, g2]
          unfold pairD
          split
          · rfl
          · rfl
        · rw [g1, deal_tup]
          show (isNights _ && (false && _)) = false
          rw [Bool.false_and, Bool.and_false]
      · have hk : dealOk (.tuple [numD a, numD b]) = ((decide (1 ≤ numI a) && decide (numI a ≤ 14)) && (decide (1 ≤ numI b) && decide (numI b < numI a))) := by
          rw [e1, g1, deal_tup]
          show (isNights _ && (true && freeB _ _)) = _
          rw [nights_int', Bool.true_and]
          rfl
        cases h1 : (decide (1 ≤ numI b) && decide (numI b < numI a)) with
        | false =>
          refine bad ?_ ?_
          · rw [hdue]
            unfold pairD
            split
            · rw [h1]; rfl
            · rfl
          · rw [hk, h1, Bool.and_false]
        | true =>
          have h2 : 1 ≤ numI b ∧ numI b < numI a := by simpa using h1
          cases h3 : decide (numI a ≤ 14) with
          | false =>
            refine bad ?_ ?_
            · rw [hdue]
              unfold pairD
              rw [h3, Bool.and_false]
              rfl
            · rw [hk, h3, Bool.and_false, Bool.false_and]
          | true =>
            have h4 : decide (2 ≤ numI a) = true := decide_eq_true (by omega)
            have h5 : decide (1 ≤ numI a) = true := decide_eq_true (by omega)
            refine .inl ⟨.tuple [numD a, numD b], hws, by rw [fits_deal, hk, h1, h3, h5]; rfl, ?_, ?_⟩
            · rw [hdue, e1, g1]
              unfold pairD
              rw [if_pos (by rw [h3, h4]; rfl), if_pos h1]
            · rw [e1, g1]
              show [tS (numI a), tS (numI b)] = _
              rw [e2, g2]
theorem good {w : Str} (hw : w ∈ WORDS) (ws : List Str) : Good w ws := by
  have pf : ∀ {w : Str} (ok : Int → Bool) (x : Str), isYN w = false → isPF w = true → (∀ n, ok n = (decide (0 ≤ n) && decide (n ≤ 1000000000000))) → (decide (V.str x = V.str "none") && isPD w) = false → oneD w x = if ok (numI x) = true then .int (numI x) else .int (-1) := fun ok x h1 h2 h3 h4 => by
    unfold oneD
    rw [h4, if_neg Bool.false_ne_true, if_neg (by rw [h1]; exact Bool.false_ne_true), h2, Bool.true_and, h3]
    rcases numI_cases x with ⟨_, e⟩ | ⟨e, _⟩
    · rw [e]
      rfl
    · rw [show decide (0 ≤ numI x) = true from decide_eq_true e, Bool.true_and]
      cases hc : decide (numI x ≤ 1000000000000) with
      | true => rfl
      | false =>
        rw [if_neg Bool.false_ne_true, if_neg Bool.false_ne_true]
        have : ¬ numI x ≤ 1000000000000 := of_decide_eq_false hc
        rw [show decide (numI x ≤ 14) = false from decide_eq_false (by omega), Bool.and_false, Bool.and_false]
        rfl
  have lm : ∀ {w : Str} (ok : Int → Bool) (x : Str), isYN w = false → isPF w = false → isLM w = true → (∀ n, ok n = (decide (1 ≤ n) && decide (n ≤ 14))) → (decide (V.str x = V.str "none") && isPD w) = false → oneD w x = if ok (numI x) = true then .int (numI x) else .int (-1) := fun ok x h1 h2 h2b h3 h4 => by
    unfold oneD
    rw [h4, if_neg Bool.false_ne_true, if_neg (by rw [h1]; exact Bool.false_ne_true), h2, Bool.false_and, if_neg Bool.false_ne_true, h2b, Bool.true_and, h3]
  rcases words_cases hw with rfl | rfl | rfl | rfl | rfl | rfl | rfl
  · exact good_num (by decide +kernel) (by decide +kernel) (fun n => decide (0 ≤ n) && decide (n ≤ 1000000000000)) (fun n => by rw [fits_price, coins_int]; rfl) (fun n h => by simp at h; exact h.1) (by rw [fits_price]; decide +kernel)
      (fun x h => pf _ x (by decide +kernel) (by decide +kernel) (fun _ => rfl) h) ws
  · exact good_yn (by decide +kernel) (by decide +kernel) (fun _ => fits_come) (by decide +kernel) ws
  · exact good_yn (by decide +kernel) (by decide +kernel) (fun _ => fits_go) (by decide +kernel) ws
  · exact good_num (by decide +kernel) (by decide +kernel) (fun n => decide (1 ≤ n) && decide (n ≤ 14)) (fun n => by rw [fits_least, nights_int']) (fun n h => by simp at h; omega) (by rw [fits_least]; decide +kernel)
      (fun x h => lm _ x (by decide +kernel) (by decide +kernel) (by decide +kernel) (fun _ => rfl) h) ws
  · exact good_num (by decide +kernel) (by decide +kernel) (fun n => decide (1 ≤ n) && decide (n ≤ 14)) (fun n => by rw [fits_most, nights_int']) (fun n h => by simp at h; omega) (by rw [fits_most]; decide +kernel)
      (fun x h => lm _ x (by decide +kernel) (by decide +kernel) (by decide +kernel) (fun _ => rfl) h) ws
  · exact good_deal ws
  · exact good_num (by decide +kernel) (by decide +kernel) (fun n => decide (0 ≤ n) && decide (n ≤ 1000000000000)) (fun n => by rw [fits_fee, coins_int]) (fun n h => by simp at h; exact h.1) (by rw [fits_fee]; decide +kernel)
      (fun x h => pf _ x (by decide +kernel) (by decide +kernel) (fun _ => rfl) h) ws
theorem str2_num (f l : Str) : isStr2 (numD f) (numD l) = (decide (0 ≤ numI f) && (decide (numI f ≤ numI l) && decide (numI l ≤ 1000000))) := by
  unfold isStr2 isTwo
  rcases numI_cases f with ⟨e1, e2⟩ | ⟨e0, e1, _⟩
  · rw [e1, e2]
    rfl
  · rcases numI_cases l with ⟨g1, g2⟩ | ⟨g0, g1, _⟩
    · rw [g1, g2, show isDay .none = false from rfl, Bool.and_false, Bool.false_and, show decide (numI f ≤ -1) = false from decide_eq_false (by omega), Bool.false_and, Bool.and_false]
    · rw [e1, g1]
      show (((true && (decide (0 ≤ numI f) && decide (numI f ≤ 1000000))) && (true && (decide (0 ≤ numI l) && decide (numI l ≤ 1000000)))) && decide (numI f ≤ numI l)) = _
      rw [show decide (0 ≤ numI f) = true from decide_eq_true e0, show decide (0 ≤ numI l) = true from decide_eq_true g0]
      by_cases h1 : numI f ≤ numI l
      · by_cases h2 : numI l ≤ 1000000
        · rw [decide_eq_true h1, decide_eq_true h2, decide_eq_true (show numI f ≤ 1000000 by omega)]; rfl
        · rw [decide_eq_true h1, decide_eq_false h2]; simp
      · rw [decide_eq_false h1]; simp
def neg (d : PyData) : Bool := match d with
  | .int n => decide (n < 0)
  | _ => false
def dueD (t : Str) : PyData := match Txt.split t SP with
  | w :: f :: l :: z :: ws =>
    if (!inV (.str w) (WORDS.map V.str)) = true then .none
    else if (!(decide (0 ≤ numI f) && (decide (numI f ≤ numI l) && decide (numI l ≤ 1000000))) || (isTy "int" (worthDue w (z :: ws)) && (!isTy "bool" (worthDue w (z :: ws)) && neg (worthDue w (z :: ws))))) = true then .none
    else .tuple [.str w, .int (numI f), .int (numI l), worthDue w (z :: ws)]
  | _ => .none
theorem split_back (t : Str) : Str.join SP (Txt.split t SP) = t := PySem.StrLaws.join_split t SP
theorem due_is {t : Str} (ht : okS t) : dueD t = optD (ruleBy t) := by
  match e : Txt.split t SP with
  | [] => unfold dueD ruleBy; rw [e]; rfl
  | [_] => unfold dueD ruleBy; rw [e]; rfl
  | [_, _] => unfold dueD ruleBy; rw [e]; rfl
  | [_, _, _] => unfold dueD ruleBy; rw [e]; rfl
  | w :: f :: l :: z :: ws =>
    rw [by_is e]
    have hd : dueD t = if (!inV (.str w) (WORDS.map V.str)) = true then .none
      else if (!(decide (0 ≤ numI f) && (decide (numI f ≤ numI l) && decide (numI l ≤ 1000000))) || (isTy "int" (worthDue w (z :: ws)) && (!isTy "bool" (worthDue w (z :: ws)) && neg (worthDue w (z :: ws))))) = true then .none
      else .tuple [.str w, .int (numI f), .int (numI l), worthDue w (z :: ws)] := by
      unfold dueD
      rw [e]
    rw [hd, inV_words]
    have none_of : (∀ d ∈ worthsBy w (z :: ws), ruleTry t w (numD f) (numD l) d = none) → (worthsBy w (z :: ws)).findSome? (ruleTry t w (numD f) (numD l)) = none := fun h => List.findSome?_eq_none_iff.mpr h
    have try_bad : ∀ d, ruleOf (.tuple [.str w, numD f, numD l, d]) = none → ruleTry t w (numD f) (numD l) d = none := fun d h => by unfold ruleTry; rw [h]
    by_cases hw : w ∈ WORDS
    · rw [decide_eq_true hw, Bool.not_true, if_neg Bool.false_ne_true, ← str2_num]
      cases h2 : isStr2 (numD f) (numD l) with
      | false =>
        rw [Bool.not_false, Bool.true_or, if_pos rfl, none_of fun d _ => try_bad d (rule_str h2)]
        rfl
      | true =>
        rw [Bool.not_true, Bool.false_or]
        rcases numI_cases f with ⟨e1, _⟩ | ⟨e0, e1, e2⟩
        · rw [e1] at h2; cases h2
        rcases numI_cases l with ⟨g1, _⟩ | ⟨g0, g1, g2⟩
        · rw [g1] at h2
          unfold isStr2 isTwo at h2
          rw [show isDay .none = false from rfl, Bool.and_false, Bool.false_and] at h2
          cases h2
        rw [e1, g1] at h2
        rw [e1, g1] at none_of try_bad ⊢
        have is_text : ∀ d, fitsW w d = true → wParts w d = z :: ws → ruleText ⟨w, numI f, numI l, d⟩ = t := fun d h1 h3 => by
          have hv : rulV ⟨w, numI f, numI l, d⟩ := ⟨hw, h2, h1⟩
          rw [text_join (rulV_ok hv)]
          unfold rParts
          show Str.join SP (w :: tS (numI f) :: tS (numI l) :: wParts w d) = t
          rw [e2, g2, h3, ← e, split_back]
        have no_text : ∀ d, fitsW w d = true → wParts w d ≠ z :: ws → ruleText ⟨w, numI f, numI l, d⟩ ≠ t := fun d h1 h3 ht2 => by
          have hv : rulV ⟨w, numI f, numI l, d⟩ := ⟨hw, h2, h1⟩
          have h4 := text_split hw (rulV_ok hv)
          rw [ht2, e] at h4
          unfold rParts at h4
          simp only [List.cons.injEq] at h4
          exact h3 h4.2.2.2.symm
        rcases good hw (z :: ws) with ⟨d, h3, h4, h5, h6⟩ | ⟨h3, h4⟩
        · rw [h3, h5]
          have hneg : (isTy "int" d && (!isTy "bool" d && neg d)) = false := by
            rcases wOk_cases (wOk_fits hw h4) with rfl | ⟨b, rfl, _⟩ | ⟨n, rfl, hn, _⟩ | ⟨m, n, rfl, _⟩
            · rfl
            · rfl
            · show (true && (true && decide (n < 0))) = false
              rw [decide_eq_false (by have := small_lo hn; omega)]
              rfl
            · rfl
          have q : ruleTry t w (.int (numI f)) (.int (numI l)) d = some ⟨w, numI f, numI l, d⟩ := by
            unfold ruleTry
            rw [rule_some hw h2, if_pos h4]
            show (if decide (V.str (ruleText ⟨w, numI f, numI l, d⟩) = V.str t) = true then _ else _) = _
            rw [is_text d h4 h6, if_pos (by simp)]
          rw [hneg, if_neg Bool.false_ne_true, List.findSome?_cons, q]
          rfl
        · rw [h3, none_of fun d hd => ?_]
          · rfl
          · rcases h4 d hd with h5 | h5
            · exact try_bad d (by rw [rule_some hw h2, h5]; rfl)
            · unfold ruleTry
              rw [rule_some hw h2]
              cases h6 : fitsW w d with
              | false => rfl
              | true =>
                show (if decide (V.str (ruleText ⟨w, numI f, numI l, d⟩) = V.str t) = true then _ else _) = _
                rw [if_neg (by simpa [V.str.injEq] using no_text d h6 h5)]
    · rw [decide_eq_false hw, Bool.not_false, if_pos rfl, none_of fun d _ => try_bad d (by
        unfold ruleOf
        split
        · rename_i w' f' l' d' e'
          injection e' with e'
          injection e' with e1 _
          injection e1 with e1
          subst e1
          rw [inV_words, decide_eq_false hw, Bool.false_and, Bool.false_and]
          rfl
        · rfl)]
      rfl
end Pm
namespace Pm
open PySem PySem.Spec L2 Sg Dr
/-! the law's own number, pair, worth, due -/
def n22 (w : Str) : Bool := decide (V.int (w.length : Int) = V.int 0) || decide (((sel (fun c => !isFig c) (fun c => pS ⟨#[c]⟩) w.cps.toList).length : Int) > 0)
theorem sel_len0 {α β : Type} {f : α → Bool} {gm : α → β} {xs : List α} : ((sel f gm xs).length : Int) > 0 ↔ ∃ x ∈ xs, f x = true := by
  unfold sel
  rw [List.length_map]
  constructor
  · intro h
    have h2 : xs.filter f ≠ [] := fun e => by rw [e] at h; simp at h
    obtain ⟨x, hx⟩ := List.exists_mem_of_ne_nil _ h2
    exact ⟨x, (List.mem_filter.mp hx).1, (List.mem_filter.mp hx).2⟩
  · rintro ⟨x, hx, hf⟩
    have : 0 < (xs.filter f).length := List.length_pos_of_mem (List.mem_filter.mpr ⟨hx, hf⟩)
    omega
theorem empty_str {w : Str} (h : w.cps.toList = []) : w = "" := Str.ext' (Array.toList_inj.mp (h.trans (show [] = (Str.ofString "").cps.toList by decide +kernel)))
theorem n22_bad {w : Str} (h : n22 w = true) : numI w = -1 := by
  have hb : numBad w = true := by
    unfold n22 at h
    unfold numBad
    rw [Bool.or_eq_true] at h
    rcases h with h | h
    · have e := V.int.inj (of_decide_eq_true h)
      have : w.cps.toList = [] := List.length_eq_zero_iff.mp (by rw [← TL.len_tl]; omega)
      rw [empty_str this]
      decide +kernel
    · obtain ⟨c, hc, hf⟩ := sel_len0.mp (of_decide_eq_true h)
      have : (w.cps.toList.all isFig) = false := by
        rw [List.all_eq_false]
        exact ⟨c, hc, by simpa using hf⟩
      rw [this]
      simp
  unfold numI
  rw [if_pos hb]
theorem n22_ok {w : Str} (h : n22 w = false) : ∃ c t, w.cps.toList = c :: t ∧ w.cps.toList.all isFig = true := by
  unfold n22 at h
  rw [Bool.or_eq_false_iff] at h
  obtain ⟨h1, h2⟩ := h
  cases e : w.cps.toList with
  | nil =>
    have hl : w.length = 0 := by rw [TL.len_tl]; show w.cps.toList.length = 0; rw [e]; rfl
    rw [hl] at h1
    exact absurd h1 (by decide)
  | cons c t =>
    refine ⟨c, t, rfl, ?_⟩
    rw [List.all_eq_true]
    intro x hx
    cases hf : isFig x with
    | true => rfl
    | false =>
      exfalso
      exact of_decide_eq_false h2 (sel_len0.mpr ⟨x, by rw [e]; exact hx, by rw [hf]; rfl⟩)
theorem n22_zero {w : Str} {c : Nat} {t : List Nat} (e : w.cps.toList = c :: t) (ha : w.cps.toList.all isFig = true) : numBad w = (decide ((w.length : Int) > 1) && decide (V.str ⟨#[c]⟩ = V.str "0")) := by
  have hne : decide (V.str w = V.str "") = false := decide_eq_false fun q => by
    have q2 := V.str.inj q
    rw [q2] at e
    exact absurd (e.symm.trans (show (Str.ofString "").cps.toList = [] by decide +kernel)) (by simp)
  have hl : w.length = t.length + 1 := by rw [TL.len_tl]; show w.cps.toList.length = _; rw [e]; rfl
  unfold numBad zHead
  rw [hne, ha, Bool.false_or, Bool.not_true, Bool.false_or, e]
  show (decide (V.str ⟨#[c]⟩ = V.str "0") && !decide (V.str w = V.str "0")) = _
  cases hc : decide (V.str ⟨#[c]⟩ = V.str "0") with
  | false => rw [Bool.false_and, Bool.and_false]
  | true =>
    rw [Bool.true_and, Bool.and_true, hl]
    have hc2 : (⟨#[c]⟩ : Str) = "0" := V.str.inj (of_decide_eq_true hc)
    cases t with
    | nil =>
      rw [str_one e, hc2]
      rw [decide_eq_true rfl]
      rfl
    | cons a b =>
      rw [show decide (V.str w = V.str "0") = false from decide_eq_false fun q => by
        have q2 := V.str.inj q
        rw [q2, ← hc2] at e
        exact absurd (List.cons.inj e).2 (by simp)]
      rw [decide_eq_true (by simp only [List.length_cons]; omega)]
      rfl
def spNumI : Sp := SpP1 (fun w => w.length ≤ 640) (fun w => [pS w]) (fun w => pI (numI w))
def spPair (K : PySem.W.Frag) : Sp := SpP2 (fun a b => a.length ≤ 640 ∧ b.length ≤ 640) (fun a b => [pL [pS a, pS b]]) (fun a b => pD K (pairD (numI a) (numI b)))
def spWorthDue (K : PySem.W.Frag) : Sp := SpP2 (fun (_ : Str) ws => ws.length ≤ 1000 ∧ ∀ x ∈ ws, okS x) (fun w ws => [pS w, pL (ws.map pS)]) (fun w ws => pD K (worthDue w ws))
def spDue (K : PySem.W.Frag) : Sp := SpP1 okS (fun t => [pS t]) (fun t => pD K (dueD t))
def spRight : Sp := SpP1 okS (fun t => [pS t]) (fun _ => pB true)
def ynK : List (Key × V) := [(.inr "yes", .bl true), (.inr "no", .bl false)]
theorem yn_get (x : Str) : (valV (mergeK [] ynK) (.inr x)).getD (.int (-1)) = match ynD x with
    | .bool b => .bl b
    | _ => .int (-1) := by
  have e : mergeK [] ynK = ynK := by decide +kernel
  rw [e]
  unfold valV ynK ynD
  by_cases h1 : x = "yes"
  · subst h1
    rw [if_pos (by decide +kernel)]
    rfl
  · by_cases h2 : x = "no"
    · subst h2
      rw [if_neg (by decide +kernel), if_pos (by decide +kernel), List.find?_cons_of_neg (by decide +kernel), List.find?_cons_of_pos (by decide +kernel)]
      rfl
    · rw [if_neg (by simpa [V.str.injEq] using h1), if_neg (by simpa [V.str.injEq] using h2), List.find?_cons_of_neg (by simpa using fun q => h1 q.symm), List.find?_cons_of_neg (by simpa using fun q => h2 q.symm)]
      rfl
theorem yn_pD {K : PySem.W.Frag} {x : Str} {v : V} {G : Hp} (h : v = (valV (mergeK [] ynK) (.inr x)).getD (.int (-1))) : (pD K (ynD x)).h v G := by
  rw [yn_get] at h
  subst h
  unfold ynD
  split
  · exact Dp.bl true
  · split
    · exact Dp.bl false
    · exact Dp.int (-1)
theorem inPD {w : Str} : inV (.str w) [.str "price", .str "deal"] = isPD w := rfl
/-! odd words -/
def odd1 : List Str := ["", "00", "01", "-1", "+1", "none", "yes", "no", "True", "1000001", "1000000"]
def odd2 : List Str := ["1000000000001", "15", "14", "0", "1", "2", "price", "come", "deal", "None"]
def odd3 : List Str := ["1_0", Txt.mul "9" 70, ";", "yes;", "x"]
def oddL : List Str := (odd1 ++ odd2) ++ odd3
def oddV (r : Dr.Row) : Str := oddL.getD (take r 26).toNat Str.empty
theorem odd_in (r : Dr.Row) : oddV r ∈ oddL := by
  have h1 := take_lo r (b := 26) (by decide)
  have h2 := take_hi r (b := 26) (by decide)
  exact getD_mem (show (take r 26).toNat < 26 by omega)
theorem odd_ok : ∀ x ∈ oddL, x.length ≤ 70 ∧ PyData.strOk x = true := by decide +kernel
theorem mul_ok : MulOk "9" 70 := by unfold MulOk; decide +kernel
def spOdd : Sp := SpM2 (fun (_ : Addr) (_ : Dr.Row) => True) (fun p _ => [pV (.ref p)]) (fun p r => [(p, cRow r)]) (fun p r => [(p, cRow (takeR r 26))]) (fun _ r => pS (oddV r))
/-! words of a bounded sum -/
def tot (ws : List Str) : Nat := (ws.map fun x => x.length + 1).sum
def okW (n : Nat) (ws : List Str) : Prop := tot ws ≤ n ∧ ∀ x ∈ ws, PyData.strOk x = true
theorem tot_cons (x : Str) (ws : List Str) : tot (x :: ws) = x.length + 1 + tot ws := by simp [tot]
theorem tot_app (a b : List Str) : tot (a ++ b) = tot a + tot b := by simp [tot, List.sum_append]
theorem tot_mem : ∀ {ws : List Str} {x : Str}, x ∈ ws → x.length + 1 ≤ tot ws
  | y :: r, x, h => by
    rw [tot_cons]
    rcases List.mem_cons.mp h with rfl | h
    · omega
    · have := tot_mem h
      omega
theorem tot_len : ∀ ws : List Str, ws.length ≤ tot ws
  | [] => Nat.le_refl _
  | y :: r => by
    have := tot_len r
    rw [tot_cons, List.length_cons]
    omega
theorem tot_take (ws : List Str) (k : Nat) : tot (ws.take k) + tot (ws.drop k) = tot ws := by rw [← tot_app, List.take_append_drop]
theorem tot_set : ∀ (ws : List Str) (i : Nat) (x : Str), tot (ws.set i x) ≤ tot ws + (x.length + 1)
  | [], _, x => by simp [tot]
  | y :: r, 0, x => by rw [List.set_cons_zero, tot_cons, tot_cons]; omega
  | y :: r, i + 1, x => by
    have := tot_set r i x
    rw [List.set_cons_succ, tot_cons, tot_cons]
    omega
theorem mem_set {α : Type} : ∀ {ws : List α} {i : Nat} {x y : α}, y ∈ ws.set i x → y = x ∨ y ∈ ws
  | [], _, _, _, h => by cases h
  | a :: r, 0, x, y, h => by
    rw [List.set_cons_zero] at h
    rcases List.mem_cons.mp h with h | h
    · exact .inl h
    · exact .inr (List.mem_cons_of_mem _ h)
  | a :: r, i + 1, x, y, h => by
    rw [List.set_cons_succ] at h
    rcases List.mem_cons.mp h with h | h
    · exact .inr (by rw [h]; exact List.mem_cons_self)
    · rcases mem_set h with h | h
      · exact .inl h
      · exact .inr (List.mem_cons_of_mem _ h)
theorem okW.set {n m : Nat} {ws : List Str} {x : Str} (h : okW n ws) (hx : x.length + 1 ≤ m) (hs : PyData.strOk x = true) (i : Nat) : okW (n + m) (ws.set i x) :=
  ⟨by have := tot_set ws i x; have := h.1; omega, fun y hy => (mem_set hy).elim (fun e => by rw [e]; exact hs) (h.2 y)⟩
theorem okW.app {n m : Nat} {ws : List Str} {x : Str} (h : okW n ws) (hx : x.length + 1 ≤ m) (hs : PyData.strOk x = true) : okW (n + m) (ws ++ [x]) :=
  ⟨by rw [tot_app, tot_cons]; have := h.1; show tot ws + (x.length + 1 + 0) ≤ _; omega, fun y hy => by
    rcases List.mem_append.mp hy with e | e
    · exact h.2 y e
    · rw [List.mem_singleton.mp e]; exact hs⟩
theorem okW.ins {n m : Nat} {ws : List Str} {x : Str} (h : okW n ws) (hx : x.length + 1 ≤ m) (hs : PyData.strOk x = true) (k : Nat) : okW (n + m) (ws.take k ++ [x] ++ ws.drop k) :=
  ⟨by rw [tot_app, tot_app, tot_cons]; have := h.1; have := tot_take ws k; show tot (ws.take k) + (x.length + 1 + 0) + tot (ws.drop k) ≤ _; omega, fun y hy => by
    rcases List.mem_append.mp hy with e | e
    · rcases List.mem_append.mp e with e | e
      · exact h.2 y (List.mem_of_mem_take e)
      · rw [List.mem_singleton.mp e]; exact hs
    · exact h.2 y (List.mem_of_mem_drop e)⟩
theorem okW.erase {n : Nat} {ws : List Str} (h : okW n ws) (k : Nat) : okW n (ws.eraseIdx k) := by
  rw [List.eraseIdx_eq_take_drop_succ]
  refine ⟨?_, fun y hy => ?_⟩
  · rw [tot_app]
    have h1 := tot_take ws k
    have h2 := tot_take (ws.drop k) 1
    rw [List.drop_drop] at h2
    have := h.1
    omega
  · rcases List.mem_append.mp hy with e | e
    · exact h.2 y (List.mem_of_mem_take e)
    · exact h.2 y (List.mem_of_mem_drop e)
theorem okW.mono {n m : Nat} {ws : List Str} (h : okW n ws) (e : n ≤ m) : okW m ws := ⟨Nat.le_trans h.1 e, h.2⟩
theorem joinL_tot : ∀ {ws : List Str}, ws ≠ [] → (TL.joinL [32] (ws.map TL.tl)).length + 1 = tot ws
  | [], h => absurd rfl h
  | [x], _ => by
    show (TL.tl x).length + 1 = _
    rw [tot_cons, TL.len_tl]
    rfl
  | x :: y :: r, _ => by
    have := joinL_tot (ws := y :: r) (by simp)
    rw [tot_cons, ← this, TL.len_tl]
    show (TL.tl x ++ ([32] ++ TL.joinL [32] ((y :: r).map TL.tl))).length + 1 = _
    rw [List.length_append, List.length_append, List.length_singleton]
    omega
theorem joinL_in : ∀ {ws : List (List Nat)} {c : Nat}, c ∈ TL.joinL [32] ws → c = 32 ∨ ∃ p ∈ ws, c ∈ p
  | [x], c, h => .inr ⟨x, List.mem_cons_self, h⟩
  | x :: y :: r, c, h => by
    have h : c ∈ x ++ ([32] ++ TL.joinL [32] (y :: r)) := h
    rcases List.mem_append.mp h with h | h
    · exact .inr ⟨x, List.mem_cons_self, h⟩
    · rcases List.mem_append.mp h with h | h
      · exact .inl (List.mem_singleton.mp h)
      · rcases joinL_in h with h | ⟨p, hp, h⟩
        · exact .inl h
        · exact .inr ⟨p, List.mem_cons_of_mem _ hp, h⟩
theorem strOk_iff {s : Str} : PyData.strOk s = true ↔ ∀ c ∈ TL.tl s, c < 0x110000 := by
  unfold PyData.strOk
  rw [← Array.all_toList, List.all_eq_true]
  simp only [decide_eq_true_eq]
theorem tl_joinS (ws : List Str) : TL.tl (Txt.join SP ws) = TL.joinL [32] (ws.map TL.tl) := by rw [TL.join_eq, TL.tl_join, tl_SP]
theorem join_ok {n : Nat} {ws : List Str} (h : okW n ws) (hn : n ≤ 640) : okS (Txt.join SP ws) := by
  rw [okS_iff, tl_joinS]
  constructor
  · by_cases e : ws = []
    · subst e
      exact Nat.zero_le _
    · have := joinL_tot e
      have := h.1
      omega
  · intro c hc
    rcases joinL_in hc with e | ⟨p, hp, hc2⟩
    · omega
    · obtain ⟨x, hx, rfl⟩ := List.mem_map.mp hp
      exact strOk_iff.mp (h.2 x hx) c hc2
theorem join_sz {n : Nat} {ws : List Str} (h : okW n ws) (hn : n ≤ 640) : (ws.map (·.length)).sum + ws.length * SP.length ≤ 16777216 := by
  have e : (ws.map (·.length)).sum + ws.length = tot ws := by
    clear h
    induction ws with
    | nil => rfl
    | cons a r ih => rw [tot_cons, ← ih, List.map_cons, List.sum_cons, List.length_cons]; omega
  have e2 : SP.length = 1 := by decide
  have := h.1
  rw [e2]
  omega
theorem split_ne (t : Str) : Txt.split t SP ≠ [] := fun e => by
  have h := congrArg (List.map TL.tl) e
  rw [split_map] at h
  have : ∀ (l : List Nat) (k : Nat) (acc : List Nat), TL.spl [32] k acc l ≠ [] := by
    intro l
    induction l with
    | nil => intro k acc; rw [TL.spl_nil]; simp
    | cons x r ih =>
      intro k acc
      cases k with
      | zero =>
        cases e2 : TL.pre [32] (x :: r) with
        | true => rw [TL.spl_hit e2]; simp
        | false => rw [TL.spl_miss e2]; exact ih 0 _
      | succ k => exact ih k acc
  exact this _ _ _ h
def okB (t : Str) : Prop := t.length ≤ 200 ∧ PyData.strOk t = true
theorem okB.okS {t : Str} (h : okB t) : okS t := ⟨Nat.le_trans h.1 (by decide), h.2⟩
theorem split_okW {t : Str} (h : okB t) : okW 201 (Txt.split t SP) := by
  refine ⟨?_, fun x hx => ((split_ok h.okS).2 x hx).2⟩
  have h1 := joinL_tot (split_ne t)
  have h2 := split_back t
  have h3 : (TL.joinL [32] ((Txt.split t SP).map TL.tl)).length = t.length := by
    rw [← tl_SP, ← TL.tl_join, h2, TL.len_tl]
  have := h.1
  omega
theorem split_cnt {t : Str} (h : okB t) : 0 < ((Txt.split t SP).length : Int) ∧ ((Txt.split t SP).length : Int) ≤ 201 := by
  have h1 := tot_len (Txt.split t SP)
  have h2 := (split_okW h).1
  have h3 : (Txt.split t SP).length ≠ 0 := fun e => split_ne t (List.length_eq_zero_iff.mp e)
  omega
theorem cut_ok {t : Str} (h : PyData.strOk t = true) (lo hi : Option Int) : PyData.strOk (cutS t lo hi) = true := by
  rw [strOk_iff] at h ⊢
  intro c hc
  have hc2 : c ∈ (t.cps.toList.drop (HT.sIx t.length 0 lo)).take (HT.sIx t.length t.length hi - HT.sIx t.length 0 lo) := hc
  exact h c (List.mem_of_mem_drop (List.mem_of_mem_take hc2))
theorem app_ok {a b : Str} (h1 : PyData.strOk a = true) (h2 : PyData.strOk b = true) : PyData.strOk (a ++ b) = true := by
  rw [strOk_iff] at h1 h2 ⊢
  intro c hc
  rw [TL.tl_append] at hc
  rcases List.mem_append.mp hc with q | q
  · exact h1 c q
  · exact h2 c q
def signsL : List Str := [" ", "0", "1", "~", "a", "-"]
theorem signs_ok : ∀ x ∈ signsL, x.length ≤ 1 ∧ PyData.strOk x = true := by decide +kernel
abbrev BentA : Type := Addr × Dr.Row × Str
def spBent : Sp := SpX (fun a : BentA => okB a.2.2) (fun a => [pV (.ref a.1), pS a.2.2]) (fun a => [(a.1, cRow a.2.1)]) (fun (_ : BentA) (i : Dr.Row × Str) => okS i.2) (fun a i => [(a.1, cRow i.1)]) (fun _ i => pS i.2)
theorem ixN_at {n : Nat} {i : Int} (h0 : 0 ≤ i) (h1 : i < n) : ixN n i = some i.toNat := by
  unfold ixN
  rw [if_pos h0, if_pos h1]
theorem seq_at {n : Nat} {i : Int} (h0 : 0 ≤ i) (h1 : i < n) : seqIndex? i n = some i.toNat := (ixN_seq (ixN_at h0 h1)).1
theorem atI_map {F : Str → Pr} {ws : List Str} {i : Int} (h0 : 0 ≤ i) (h1 : i < ws.length) : ∃ x ∈ ws, ws[i.toNat]? = some x ∧ atI (ws.map F) i = some (F x) := by
  have h2 : i.toNat < ws.length := by omega
  refine ⟨ws[i.toNat], List.getElem_mem h2, List.getElem?_eq_getElem h2, ?_⟩
  unfold atI
  rw [ixN_at h0 (by rw [List.length_map]; exact h1)]
  show (ws.map F)[i.toNat]? = _
  rw [List.getElem?_map, List.getElem?_eq_getElem h2]
  rfl
theorem erase_map (ws : List Str) (n : Nat) : (ws.map pS).eraseIdx n = (ws.eraseIdx n).map pS := by
  rw [List.eraseIdx_eq_take_drop_succ, List.eraseIdx_eq_take_drop_succ, List.map_append, List.map_take, List.map_drop]
theorem ins_map (ws : List Str) (x : Str) (n : Nat) : (ws.map pS).take n ++ [pS x] ++ (ws.map pS).drop n = (ws.take n ++ [x] ++ ws.drop n).map pS := by
  rw [List.map_append, List.map_append, List.map_take, List.map_drop]
  rfl
theorem set_map (ws : List Str) (x : Str) (n : Nat) : (ws.map pS).set n (pS x) = (ws.set n x).map pS := by rw [List.map_set]
theorem app_map (ws : List Str) (x : Str) : ws.map pS ++ [pS x] = (ws ++ [x]).map pS := by rw [List.map_append]; rfl
theorem due_long {w : Str} {ws : List Str} (h : (decide (V.str w = V.str "deal") && decide (V.int (ws.length : Int) = V.int 2)) = false) (h1 : (!decide (V.int (ws.length : Int) = V.int 1)) = true) : worthDue w ws = .int (-1) := by
  unfold worthDue
  split
  · rename_i a b
    have e : decide (V.int (([a, b] : List Str).length : Int) = V.int 2) = true := decide_eq_true rfl
    rw [e, Bool.and_true] at h
    rw [if_neg (by rw [h]; exact Bool.false_ne_true)]
  · rename_i x
    have e : decide (V.int (([x] : List Str).length : Int) = V.int 1) = true := decide_eq_true rfl
    rw [e] at h1
    cases h1
  · rfl
theorem len_is1 {ws : List Str} (h1 : (!decide (V.int (ws.length : Int) = V.int 1)) = false) : ∃ x, ws = [x] := by
  have e := V.int.inj (of_decide_eq_true (by simpa using h1))
  match ws, e with
  | [x], _ => exact ⟨x, rfl⟩
  | [], e => exact absurd e (by decide)
  | a :: b :: t, e => simp only [List.length_cons] at e; omega
theorem due_short {t : Str} (h : (Txt.split t SP).length < 4) : dueD t = .none := by
  unfold dueD
  split
  · rename_i e
    rw [e] at h
    simp only [List.length_cons] at h
    omega
  · rfl
theorem due_long4 {t : Str} (h : ¬ (Txt.split t SP).length < 4) : ∃ w f l z ws, Txt.split t SP = w :: f :: l :: z :: ws := by
  match e : Txt.split t SP with
  | w :: f :: l :: z :: ws => exact ⟨w, f, l, z, ws, rfl⟩
  | [] => rw [e] at h; exact absurd (by decide) h
  | [_] => rw [e] at h; exact absurd (show 1 < 4 by decide) h
  | [_, _] => rw [e] at h; exact absurd (show 2 < 4 by decide) h
  | [_, _, _] => rw [e] at h; exact absurd (show 3 < 4 by decide) h
theorem due_4 {t w f l z : Str} {ws : List Str} (e : Txt.split t SP = w :: f :: l :: z :: ws) : dueD t = if (!inV (.str w) (WORDS.map V.str)) = true then .none
      else if (!(decide (0 ≤ numI f) && (decide (numI f ≤ numI l) && decide (numI l ≤ 1000000))) || (isTy "int" (worthDue w (z :: ws)) && (!isTy "bool" (worthDue w (z :: ws)) && neg (worthDue w (z :: ws))))) = true then .none
      else .tuple [.str w, .int (numI f), .int (numI l), worthDue w (z :: ws)] := by
  unfold dueD
  rw [e]
theorem int_only {d : PyData} (h : isTy "int" d = true) (h2 : (!isTy "bool" d) = true) : ∃ n, d = .int n := by
  cases d with
  | int n => exact ⟨n, rfl⟩
  | bool b => rw [isTy_bool] at h2; cases h2
  | _ => cases h
theorem cut_13 {α : Type} {F : α → Pr} (a b c d : α) (t : List α) : cutP ((a :: b :: c :: d :: t).map F) (some 1) (some 3) = [b, c].map F := by
  unfold cutP
  rw [show (some (3 : Int)) = some ((3 : Nat) : Int) from rfl, show (some (1 : Int)) = some ((1 : Nat) : Int) from rfl, HT.sIx_nat, HT.sIx_nat]
  rw [Nat.min_eq_left (by simp only [List.length_map, List.length_cons]; omega), Nat.min_eq_left (by simp only [List.length_map, List.length_cons]; omega)]
  rfl
theorem by_V {t : Str} {r : Rul} (h : ruleBy t = some r) : rulV r := by
  unfold ruleBy at h
  split at h
  · split at h
    · cases h
    · obtain ⟨d, _, hd⟩ := List.exists_of_findSome?_eq_some h
      unfold ruleTry at hd
      split at hd
      · rename_i r' hr
        split at hd
        · injection hd with hd
          subst hd
          exact (ruleOf_V hr).1
        · cases hd
      · cases hd
  · cases h
theorem enc_sh {r : Rul} (h : rulV r) : SeqAt.shaped r.enc = true ∧ PyData.eqv r.enc r.enc = true := by
  have hw := words_ok h.1
  unfold SeqAt.shaped
  rw [Bool.and_eq_true, decide_eq_true_eq]
  unfold Rul.enc
  rcases wOk_cases (wOk_fits h.1 h.2.2) with q | ⟨b, q, _⟩ | ⟨n, q, _⟩ | ⟨m, n, q, _⟩ <;> rw [q] <;> simp [PyData.canLay0, PyData.canLayAll0, PyData.depth, PyData.depthAll, PyData.eqv, PyData.eqvAll, hw]
/-- the row behind j odd words -/
def oddN (r : Dr.Row) : Nat → Dr.Row
  | 0 => r
  | j + 1 => takeR (oddN r j) 26
def oddWs (r : Dr.Row) (n : Nat) : List Str := (List.range n).map fun j => oddV (oddN r j)
theorem tot_le : ∀ (ws : List Str), (∀ x ∈ ws, x.length ≤ 70) → tot ws ≤ 71 * ws.length
  | [], _ => Nat.zero_le _
  | x :: r, h => by
    have h1 := tot_le r fun y hy => h y (List.mem_cons_of_mem _ hy)
    have h2 := h x List.mem_cons_self
    rw [tot_cons, List.length_cons]
    omega
theorem oddWs_ok {r : Dr.Row} {n : Nat} (h : n ≤ 6) : okW 426 (oddWs r n) := by
  have hm : ∀ x ∈ oddWs r n, x.length ≤ 70 ∧ PyData.strOk x = true := fun x hx => by
    obtain ⟨j, _, rfl⟩ := List.mem_map.mp hx
    exact odd_ok _ (odd_in _)
  refine ⟨?_, fun x hx => (hm x hx).2⟩
  have h1 := tot_le (oddWs r n) fun x hx => (hm x hx).1
  have h2 : (oddWs r n).length = n := by unfold oddWs; rw [List.length_map, List.length_range]
  omega
theorem oddWs_map (r : Dr.Row) (n : Nat) : ((List.range n).map fun j => pS (oddV (oddN r j))) = (oddWs r n).map pS := by
  unfold oddWs
  rw [List.map_map]
  rfl
theorem blank_ok : ∀ x ∈ [Str.ofString " ", Str.ofString ""], x.length ≤ 1 ∧ PyData.strOk x = true := by decide +kernel
theorem two_ok {t x u : Str} (ht : t.length ≤ 70 ∧ PyData.strOk t = true) (hx : x.length ≤ 1 ∧ PyData.strOk x = true) (hu : u.length ≤ 70 ∧ PyData.strOk u = true) : okS (t ++ x ++ u) := by
  refine ⟨?_, app_ok (app_ok ht.2 hx.2) hu.2⟩
  rw [Str.length_append, Str.length_append]
  omega
theorem draw_text (r : Dr.Row) (d : Int) : (ruleText (ruleV r d)).length ≤ 70 ∧ PyData.strOk (ruleText (ruleV r d)) = true := ⟨rtext_len (rulV_ok (draw_V r d)), (okS_rtext (draw_V r d)).2⟩
theorem okS_a : okS "" := by unfold okS; decide +kernel
theorem okS_b : okS "price 0 0 0" := by unfold okS; decide +kernel
theorem okS_c : okS "deal 0 1000000 14 13" := by unfold okS; decide +kernel
end Pm
namespace W
open PySem PySem.Spec L2 Sg Dr Pm
def top (i : Nat) : Stmt := PySem.Challenge.pw_stayprice_k22_texts_of_no_rule.main.body.getD i (.Pass ⟨0, 0, 0, 0⟩)
abbrev FnP (K : PySem.W.Frag) (x q : Str) (st : Stmt) (f : Addr) (fd : FuncData) : Prop := FunD K x q (defArgs st) (defBody st) (defScope st) [] [] f fd
structure Tx (K : PySem.W.Frag) (mg : Str → Option Value) : Prop where
  cl : ∀ w ∈ WORDS, Cls K (cAd K w)
  na_first : ∀ w ∈ WORDS, NoAttr K (cAd K w) "first"
  na_last : ∀ w ∈ WORDS, NoAttr K (cAd K w) "last"
  na_worth : ∀ w ∈ WORDS, NoAttr K (cAd K w) "worth"
  m_FIGURES : ∃ u, mg "FIGURES" = some u ∧ RelV (.str "0123456789") u
  m_LAST_DAY : ∃ u, mg "LAST_DAY" = some u ∧ RelV (.int 1000000) u
  m_MOST_COINS : ∃ u, mg "MOST_COINS" = some u ∧ RelV (.int 1000000000000) u
  m_MOST_NIGHTS : ∃ u, mg "MOST_NIGHTS" = some u ∧ RelV (.int 14) u
  m_WORDS : mg "WORDS" = some (.ref (He.ga K "WORDS"))
  n_all : mg "all" = none
  n_bool : mg "bool" = none
  n_int : mg "int" = none
  n_isinstance : mg "isinstance" = none
  n_len : mg "len" = none
  n_max : mg "max" = none
  n_min : mg "min" = none
  n_range : mg "range" = none
  n_str : mg "str" = none
  n_tuple : mg "tuple" = none
  p_WORDS : ∀ G : Hp, (pT K ((WORDS.map V.str).map pV)).h (.ref (He.ga K "WORDS")) G
variable {P : Program} {w : World} {K : PySem.W.Frag} {mg : Str → Option Value} {base : Heap}
theorem sc_is_whole : FnScope ["thing"] ["thing"] (defScope (top 3)) := ⟨rfl, rfl, rfl, by decide +kernel, rfl, by decide +kernel, by decide +kernel⟩
theorem ok_is_whole (T : Tx K mg)  {f : Addr} {fd : FuncData} (F : FnP K "is_whole" "is_whole" (top 3) f fd) : FnOk P w K mg base CX0 1 f fd ["thing"] (spWhole K) := by
  refine F.ok sc_is_whole (lenP1 fun _ => rfl) (fun cdv A outer s H vs Q E hr h => ?_)
  skip
  refine bodyP1 (pss_one (ps_ret (pe_and (pe_callB call_isi (by rfl) T.n_isinstance (by decide +kernel) (pa_cons (pv 0) (pa_cons (pe_bltn (v := .ty "int") (by rfl) T.n_int (by decide +kernel) rfl) pa_nil))) (pe_one (pe_not (pe_callB call_isi (by rfl) T.n_isinstance (by decide +kernel) (pa_cons (pv 0) (pa_cons (pe_bltn (v := .ty "bool") (by rfl) T.n_bool (by decide +kernel) rfl) pa_nil)))))))) ?_ h
  rintro d G M vs hp ha
  obtain ⟨v1, rfl, h1⟩ := als1 ha
  have h_thing := h1
  refine s_ret (ev_andV (ev_isiD (ev_var rfl h_thing)) (fun hb1 => (ev_notV (ev_isiD (ev_var rfl h_thing))))) fun v2 G3 e4 hv => ?_
  replace h_thing := Pr.m _ e4 h_thing
  exact ⟨⟨[], List.Perm.refl _⟩, hv⟩
theorem sc_is_day : FnScope ["thing"] ["thing"] (defScope (top 4)) := ⟨rfl, rfl, rfl, by decide +kernel, rfl, by decide +kernel, by decide +kernel⟩
theorem ok_is_day (T : Tx K mg) (c_is_whole : C8.Cal P w K mg base 1 "is_whole" (spWhole K) []) {f : Addr} {fd : FuncData} (F : FnP K "is_day" "is_day" (top 4) f fd) : FnOk P w K mg base CX0 2 f fd ["thing"] (spDay K) := by
  refine F.ok sc_is_day (lenP1 fun _ => rfl) (fun cdv A outer s H vs Q E hr h => ?_)
  skip
  refine bodyP1 (pss_one (ps_ret (pe_and (C8.pe_c c_is_whole hr (by decide) (by rfl) (pa_cons (pv 0) pa_nil)) (pe_one (pe_chain op_le op_le pe_int (pv 0) (C8.pe_gc (by rfl) T.m_LAST_DAY)))))) ?_ h
  rintro d G M vs hp ha
  obtain ⟨v1, rfl, h1⟩ := als1 ha
  have h_thing := h1
  refine s_ret (ev_andV (b := rngB 0 1000000 d) (ec_P1 (ea_cons (ev_var rfl h_thing) ea_nil) trivial) (fun hb => by obtain ⟨n, rfl⟩ := whole_int hb; exact ev_chain ev_c (Ev.vI (K := K) (ev_var rfl h_thing)) ev_c (fun _ _ q => ⟨_, _, rfl, rfl, q⟩) (fun _ _ q => ⟨_, _, rfl, rfl, q⟩))) fun v2 G3 e4 hv => ?_
  replace h_thing := Pr.m _ e4 h_thing
  exact ⟨⟨[], List.Perm.refl _⟩, hv⟩
theorem sc_is_two_days : FnScope ["thing"] ["thing"] (defScope (top 5)) := ⟨rfl, rfl, rfl, by decide +kernel, rfl, by decide +kernel, by decide +kernel⟩
theorem ok_is_two_days (T : Tx K mg) (c_is_day : C8.Cal P w K mg base 2 "is_day" (spDay K) []) {f : Addr} {fd : FuncData} (F : FnP K "is_two_days" "is_two_days" (top 5) f fd) : FnOk P w K mg base CX0 3 f fd ["thing"] (spTwo K) := by
  refine F.ok sc_is_two_days (lenP2 fun _ _ => rfl) (fun cdv A outer s H vs Q E hr h => ?_)
  skip
  refine bodyP2 (pss_one (ps_ret (pe_and (pe_callB call_isi (by rfl) T.n_isinstance (by decide +kernel) (pa_cons (pv 0) (pa_cons (pe_bltn (v := .ty "tuple") (by rfl) T.n_tuple (by decide +kernel) rfl) pa_nil))) (pe_and (pe_cmpR op_eq (pe_callB call_len (by rfl) T.n_len (by decide +kernel) (pa_cons (pv 0) pa_nil)) pe_int (nomark _)) (pe_and (C8.pe_c c_is_day hr (by decide) (by rfl) (pa_cons (pe_ix ix_tup (pv 0) pe_int (fun _ _ => rfl)) pa_nil)) (pe_one (C8.pe_c c_is_day hr (by decide) (by rfl) (pa_cons (pe_ix ix_tup (pv 0) pe_int (fun _ _ => rfl)) pa_nil)))))))) ?_ h
  rintro x y G M vs hp ha
  obtain ⟨v1, rfl, h1⟩ := als1 ha
  have h_thing := h1
  refine s_ret (ev_andV (ev_isiD (ev_var rfl h_thing)) (fun hb3 => (ev_andV (ev_eq (ev_lenT (Ev.vT (ev_var rfl h_thing))) ev_c rfl) (fun hb2 => (ev_andV (ec_P1 (ea_cons (ev_ixT (Ev.vT (ev_var rfl h_thing)) ev_c rfl) ea_nil) trivial) (fun hb1 => (ec_P1 (ea_cons (ev_ixT (Ev.vT (ev_var rfl h_thing)) ev_c rfl) ea_nil) trivial))))))) fun v4 G5 e6 hv => ?_
  replace h_thing := Pr.m _ e6 h_thing
  exact ⟨⟨[], List.Perm.refl _⟩, hv⟩
theorem sc_is_stretch : FnScope ["thing"] ["thing"] (defScope (top 6)) := ⟨rfl, rfl, rfl, by decide +kernel, rfl, by decide +kernel, by decide +kernel⟩
theorem ok_is_stretch (T : Tx K mg) (c_is_two_days : C8.Cal P w K mg base 3 "is_two_days" (spTwo K) []) {f : Addr} {fd : FuncData} (F : FnP K "is_stretch" "is_stretch" (top 6) f fd) : FnOk P w K mg base CX0 4 f fd ["thing"] (spStr2 K) := by
  refine F.ok sc_is_stretch (lenP2 fun _ _ => rfl) (fun cdv A outer s H vs Q E hr h => ?_)
  skip
  refine bodyP2 (pss_one (ps_ret (pe_and (C8.pe_c c_is_two_days hr (by decide) (by rfl) (pa_cons (pv 0) pa_nil)) (pe_one (pe_cmpR op_le (pe_ix ix_tup (pv 0) pe_int (fun _ _ => rfl)) (pe_ix ix_tup (pv 0) pe_int (fun _ _ => rfl)) (nomark _)))))) ?_ h
  rintro x y G M vs hp ha
  obtain ⟨v1, rfl, h1⟩ := als1 ha
  have h_thing := h1
  refine s_ret (ev_andV (b := leB x y) (ec_P2 (ea_cons (ev_var rfl h_thing) ea_nil) trivial) (fun hb => by obtain ⟨m, rfl⟩ := day_int (Bool.and_eq_true_iff.mp hb).1; obtain ⟨n, rfl⟩ := day_int (Bool.and_eq_true_iff.mp hb).2; exact ev_I0 (Ev.vI (K := K) (ev_ixT (Ev.vT (ev_var rfl h_thing)) ev_c rfl)) (Ev.vI (K := K) (ev_ixT (Ev.vT (ev_var rfl h_thing)) ev_c rfl)))) fun v2 G3 e4 hv => ?_
  replace h_thing := Pr.m _ e4 h_thing
  exact ⟨⟨[], List.Perm.refl _⟩, hv⟩
theorem sc_is_coins : FnScope ["thing"] ["thing"] (defScope (top 10)) := ⟨rfl, rfl, rfl, by decide +kernel, rfl, by decide +kernel, by decide +kernel⟩
theorem ok_is_coins (T : Tx K mg) (c_is_whole : C8.Cal P w K mg base 1 "is_whole" (spWhole K) []) {f : Addr} {fd : FuncData} (F : FnP K "is_coins" "is_coins" (top 10) f fd) : FnOk P w K mg base CX0 2 f fd ["thing"] (spCoinsP K) := by
  refine F.ok sc_is_coins (lenP1 fun _ => rfl) (fun cdv A outer s H vs Q E hr h => ?_)
  skip
  refine bodyP1 (pss_one (ps_ret (pe_and (C8.pe_c c_is_whole hr (by decide) (by rfl) (pa_cons (pv 0) pa_nil)) (pe_one (pe_chain op_le op_le pe_int (pv 0) (C8.pe_gc (by rfl) T.m_MOST_COINS)))))) ?_ h
  rintro d G M vs hp ha
  obtain ⟨v1, rfl, h1⟩ := als1 ha
  have h_thing := h1
  refine s_ret (ev_andV (b := rngB 0 1000000000000 d) (ec_P1 (ea_cons (ev_var rfl h_thing) ea_nil) trivial) (fun hb => by obtain ⟨n, rfl⟩ := whole_int hb; exact ev_chain ev_c (Ev.vI (K := K) (ev_var rfl h_thing)) ev_c (fun _ _ q => ⟨_, _, rfl, rfl, q⟩) (fun _ _ q => ⟨_, _, rfl, rfl, q⟩))) fun v2 G3 e4 hv => ?_
  replace h_thing := Pr.m _ e4 h_thing
  exact ⟨⟨[], List.Perm.refl _⟩, hv⟩
theorem sc_is_nights : FnScope ["thing"] ["thing"] (defScope (top 11)) := ⟨rfl, rfl, rfl, by decide +kernel, rfl, by decide +kernel, by decide +kernel⟩
theorem ok_is_nights (T : Tx K mg) (c_is_whole : C8.Cal P w K mg base 1 "is_whole" (spWhole K) []) {f : Addr} {fd : FuncData} (F : FnP K "is_nights" "is_nights" (top 11) f fd) : FnOk P w K mg base CX0 2 f fd ["thing"] (spNights K) := by
  refine F.ok sc_is_nights (lenP1 fun _ => rfl) (fun cdv A outer s H vs Q E hr h => ?_)
  skip
  refine bodyP1 (pss_one (ps_ret (pe_and (C8.pe_c c_is_whole hr (by decide) (by rfl) (pa_cons (pv 0) pa_nil)) (pe_one (pe_chain op_le op_le pe_int (pv 0) (C8.pe_gc (by rfl) T.m_MOST_NIGHTS)))))) ?_ h
  rintro d G M vs hp ha
  obtain ⟨v1, rfl, h1⟩ := als1 ha
  have h_thing := h1
  refine s_ret (ev_andV (b := rngB 1 14 d) (ec_P1 (ea_cons (ev_var rfl h_thing) ea_nil) trivial) (fun hb => by obtain ⟨n, rfl⟩ := whole_int hb; exact ev_chain ev_c (Ev.vI (K := K) (ev_var rfl h_thing)) ev_c (fun _ _ q => ⟨_, _, rfl, rfl, q⟩) (fun _ _ q => ⟨_, _, rfl, rfl, q⟩))) fun v2 G3 e4 hv => ?_
  replace h_thing := Pr.m _ e4 h_thing
  exact ⟨⟨[], List.Perm.refl _⟩, hv⟩
theorem sc_Rule___init : FnScope ["self", "first", "last", "worth"] ["self", "first", "last", "worth"] (defScope (inClass (top 12) 0)) := ⟨rfl, rfl, rfl, by decide +kernel, rfl, by decide +kernel, by decide +kernel⟩
theorem ok_Rule___init (T : Tx K mg)  {f : Addr} {fd : FuncData} (F : FnP K "__init__" "Rule.__init__" (inClass (top 12) 0) f fd) : FnOk P w K mg base CX0 1 f fd ["self", "first", "last", "worth"] (spRInit K) := by
  refine F.ok sc_Rule___init (lenM5 fun _ _ _ _ _ => rfl) (fun cdv A outer s H vs Q E hr h => ?_)
  skip
  refine bodyM5 (pss_cons (ps_fld (pv 0) (pv 1) rfl)
        (pss_cons (ps_fld (pv 0) (pv 2) rfl)
        (pss_one (ps_fld (pv 0) (pv 3) rfl)))) ?_ h
  rintro x w f l d G M vs hp ha
  obtain ⟨v1, v2, v3, v4, rfl, h1, h2, h3, h4⟩ := als4 ha
  cases (show v1 = _ from h1)
  cases (show v2 = _ from h2)
  cases (show v3 = _ from h3)
  have h_worth := h4
  refine q_fldN (ev_varV rfl) (ev_varV rfl) (T.cl _ hp) (T.na_first _ hp) (by rfl) (by rfl) fun G1 e2 => ?_
  replace h_worth := Pr.m _ e2 h_worth
  refine q_fldN (ev_varV rfl) (ev_varV rfl) (T.cl _ hp) (T.na_last _ hp) (by rfl) (by rfl) fun G3 e4 => ?_
  replace h_worth := Pr.m _ e4 h_worth
  refine s_fldN (ev_var rfl h_worth) (ev_varV rfl) (T.cl _ hp) (T.na_worth _ hp) (by rfl) (by rfl) fun G5 e6 => ?_
  replace h_worth := Pr.m _ e6 h_worth
  exact ⟨⟨[], List.Perm.refl _⟩, rfl⟩
theorem sc_Price_word : FnScope ["self"] ["self"] (defScope (inClass (top 13) 0)) := ⟨rfl, rfl, rfl, by decide +kernel, rfl, by decide +kernel, by decide +kernel⟩
theorem ok_Price_word (T : Tx K mg)  {f : Addr} {fd : FuncData} (F : FnP K "word" "Price.word" (inClass (top 13) 0) f fd) : FnOk P w K mg base CX0 1 f fd ["self"] (spWord K "price") := by
  refine F.ok sc_Price_word (lenP1 fun _ => rfl) (fun cdv A outer s H vs Q E hr h => ?_)
  skip
  refine bodyP1 (pss_one (ps_ret pe_str)) ?_ h
  rintro r G M vs hp ha
  obtain ⟨v1, rfl, h1⟩ := als1 ha
  have h_self := h1
  refine s_ret ev_c fun v1 G2 e3 hv => ?_
  replace h_self := Pr.m _ e3 h_self
  exact ⟨⟨[], List.Perm.refl _⟩, by rw [hp]; exact hv⟩
theorem sc_Come_word : FnScope ["self"] ["self"] (defScope (inClass (top 14) 0)) := ⟨rfl, rfl, rfl, by decide +kernel, rfl, by decide +kernel, by decide +kernel⟩
theorem ok_Come_word (T : Tx K mg)  {f : Addr} {fd : FuncData} (F : FnP K "word" "Come.word" (inClass (top 14) 0) f fd) : FnOk P w K mg base CX0 1 f fd ["self"] (spWord K "come") := by
  refine F.ok sc_Come_word (lenP1 fun _ => rfl) (fun cdv A outer s H vs Q E hr h => ?_)
  skip
  refine bodyP1 (pss_one (ps_ret pe_str)) ?_ h
  rintro r G M vs hp ha
  obtain ⟨v1, rfl, h1⟩ := als1 ha
  have h_self := h1
  refine s_ret ev_c fun v1 G2 e3 hv => ?_
  replace h_self := Pr.m _ e3 h_self
  exact ⟨⟨[], List.Perm.refl _⟩, by rw [hp]; exact hv⟩
theorem sc_Go_word : FnScope ["self"] ["self"] (defScope (inClass (top 15) 0)) := ⟨rfl, rfl, rfl, by decide +kernel, rfl, by decide +kernel, by decide +kernel⟩
theorem ok_Go_word (T : Tx K mg)  {f : Addr} {fd : FuncData} (F : FnP K "word" "Go.word" (inClass (top 15) 0) f fd) : FnOk P w K mg base CX0 1 f fd ["self"] (spWord K "go") := by
  refine F.ok sc_Go_word (lenP1 fun _ => rfl) (fun cdv A outer s H vs Q E hr h => ?_)
  skip
  refine bodyP1 (pss_one (ps_ret pe_str)) ?_ h
  rintro r G M vs hp ha
  obtain ⟨v1, rfl, h1⟩ := als1 ha
  have h_self := h1
  refine s_ret ev_c fun v1 G2 e3 hv => ?_
  replace h_self := Pr.m _ e3 h_self
  exact ⟨⟨[], List.Perm.refl _⟩, by rw [hp]; exact hv⟩
theorem sc_Least_word : FnScope ["self"] ["self"] (defScope (inClass (top 16) 0)) := ⟨rfl, rfl, rfl, by decide +kernel, rfl, by decide +kernel, by decide +kernel⟩
theorem ok_Least_word (T : Tx K mg)  {f : Addr} {fd : FuncData} (F : FnP K "word" "Least.word" (inClass (top 16) 0) f fd) : FnOk P w K mg base CX0 1 f fd ["self"] (spWord K "least") := by
  refine F.ok sc_Least_word (lenP1 fun _ => rfl) (fun cdv A outer s H vs Q E hr h => ?_)
  skip
  refine bodyP1 (pss_one (ps_ret pe_str)) ?_ h
  rintro r G M vs hp ha
  obtain ⟨v1, rfl, h1⟩ := als1 ha
  have h_self := h1
  refine s_ret ev_c fun v1 G2 e3 hv => ?_
  replace h_self := Pr.m _ e3 h_self
  exact ⟨⟨[], List.Perm.refl _⟩, by rw [hp]; exact hv⟩
theorem sc_Most_word : FnScope ["self"] ["self"] (defScope (inClass (top 17) 0)) := ⟨rfl, rfl, rfl, by decide +kernel, rfl, by decide +kernel, by decide +kernel⟩
theorem ok_Most_word (T : Tx K mg)  {f : Addr} {fd : FuncData} (F : FnP K "word" "Most.word" (inClass (top 17) 0) f fd) : FnOk P w K mg base CX0 1 f fd ["self"] (spWord K "most") := by
  refine F.ok sc_Most_word (lenP1 fun _ => rfl) (fun cdv A outer s H vs Q E hr h => ?_)
  skip
  refine bodyP1 (pss_one (ps_ret pe_str)) ?_ h
  rintro r G M vs hp ha
  obtain ⟨v1, rfl, h1⟩ := als1 ha
  have h_self := h1
  refine s_ret ev_c fun v1 G2 e3 hv => ?_
  replace h_self := Pr.m _ e3 h_self
  exact ⟨⟨[], List.Perm.refl _⟩, by rw [hp]; exact hv⟩
theorem sc_Deal_word : FnScope ["self"] ["self"] (defScope (inClass (top 18) 0)) := ⟨rfl, rfl, rfl, by decide +kernel, rfl, by decide +kernel, by decide +kernel⟩
theorem ok_Deal_word (T : Tx K mg)  {f : Addr} {fd : FuncData} (F : FnP K "word" "Deal.word" (inClass (top 18) 0) f fd) : FnOk P w K mg base CX0 1 f fd ["self"] (spWord K "deal") := by
  refine F.ok sc_Deal_word (lenP1 fun _ => rfl) (fun cdv A outer s H vs Q E hr h => ?_)
  skip
  refine bodyP1 (pss_one (ps_ret pe_str)) ?_ h
  rintro r G M vs hp ha
  obtain ⟨v1, rfl, h1⟩ := als1 ha
  have h_self := h1
  refine s_ret ev_c fun v1 G2 e3 hv => ?_
  replace h_self := Pr.m _ e3 h_self
  exact ⟨⟨[], List.Perm.refl _⟩, by rw [hp]; exact hv⟩
theorem sc_Fee_word : FnScope ["self"] ["self"] (defScope (inClass (top 19) 0)) := ⟨rfl, rfl, rfl, by decide +kernel, rfl, by decide +kernel, by decide +kernel⟩
theorem ok_Fee_word (T : Tx K mg)  {f : Addr} {fd : FuncData} (F : FnP K "word" "Fee.word" (inClass (top 19) 0) f fd) : FnOk P w K mg base CX0 1 f fd ["self"] (spWord K "fee") := by
  refine F.ok sc_Fee_word (lenP1 fun _ => rfl) (fun cdv A outer s H vs Q E hr h => ?_)
  skip
  refine bodyP1 (pss_one (ps_ret pe_str)) ?_ h
  rintro r G M vs hp ha
  obtain ⟨v1, rfl, h1⟩ := als1 ha
  have h_self := h1
  refine s_ret ev_c fun v1 G2 e3 hv => ?_
  replace h_self := Pr.m _ e3 h_self
  exact ⟨⟨[], List.Perm.refl _⟩, by rw [hp]; exact hv⟩
theorem sc_Price_fits : FnScope ["self"] ["self"] (defScope (inClass (top 13) 1)) := ⟨rfl, rfl, rfl, by decide +kernel, rfl, by decide +kernel, by decide +kernel⟩
theorem ok_Price_fits (T : Tx K mg) (c_is_coins : C8.Cal P w K mg base 2 "is_coins" (spCoinsP K) []) {f : Addr} {fd : FuncData} (F : FnP K "fits" "Price.fits" (inClass (top 13) 1) f fd) : FnOk P w K mg base CX0 3 f fd ["self"] (spFits K "price") := by
  refine F.ok sc_Price_fits (lenP1 fun _ => rfl) (fun cdv A outer s H vs Q E hr h => ?_)
  skip
  refine bodyP1 (pss_one (ps_ret (pe_or (pe_cmpR op_isN (pe_fld (pv 0) rfl) pe_non (nomark _)) (pe_one (C8.pe_c c_is_coins hr (by decide) (by rfl) (pa_cons (pe_fld (pv 0) rfl) pa_nil)))))) ?_ h
  rintro r G M vs hp ha
  obtain ⟨v1, rfl, h1⟩ := als1 ha
  have h_self := h1
  have hw : r.w ∈ WORDS := by rw [hp]; decide
  refine s_ret (ev_orV (ev_isNb (ev_fldO (ev_var rfl h_self) (fun _ _ h => h) (T.cl _ hw) (T.na_worth _ hw) fR_worth rfl) isNone_h) (fun hb1 => (ec_P1 (ea_cons (ev_fldO (ev_var rfl h_self) (fun _ _ h => h) (T.cl _ hw) (T.na_worth _ hw) fR_worth rfl) ea_nil) trivial))) fun v2 G3 e4 hv => ?_
  replace h_self := Pr.m _ e4 h_self
  exact ⟨⟨[], List.Perm.refl _⟩, by rw [hp, fits_price]; exact hv⟩
theorem sc_Come_fits : FnScope ["self"] ["self"] (defScope (inClass (top 14) 1)) := ⟨rfl, rfl, rfl, by decide +kernel, rfl, by decide +kernel, by decide +kernel⟩
theorem ok_Come_fits (T : Tx K mg)  {f : Addr} {fd : FuncData} (F : FnP K "fits" "Come.fits" (inClass (top 14) 1) f fd) : FnOk P w K mg base CX0 3 f fd ["self"] (spFits K "come") := by
  refine F.ok sc_Come_fits (lenP1 fun _ => rfl) (fun cdv A outer s H vs Q E hr h => ?_)
  skip
  refine bodyP1 (pss_one (ps_ret (pe_callB call_isi (by rfl) T.n_isinstance (by decide +kernel) (pa_cons (pe_fld (pv 0) rfl) (pa_cons (pe_bltn (v := .ty "bool") (by rfl) T.n_bool (by decide +kernel) rfl) pa_nil))))) ?_ h
  rintro r G M vs hp ha
  obtain ⟨v1, rfl, h1⟩ := als1 ha
  have h_self := h1
  have hw : r.w ∈ WORDS := by rw [hp]; decide
  refine s_ret (ev_isiD (ev_fldO (ev_var rfl h_self) (fun _ _ h => h) (T.cl _ hw) (T.na_worth _ hw) fR_worth rfl)) fun v1 G2 e3 hv => ?_
  replace h_self := Pr.m _ e3 h_self
  exact ⟨⟨[], List.Perm.refl _⟩, by rw [hp, fits_come]; exact hv⟩
theorem sc_Go_fits : FnScope ["self"] ["self"] (defScope (inClass (top 15) 1)) := ⟨rfl, rfl, rfl, by decide +kernel, rfl, by decide +kernel, by decide +kernel⟩
theorem ok_Go_fits (T : Tx K mg)  {f : Addr} {fd : FuncData} (F : FnP K "fits" "Go.fits" (inClass (top 15) 1) f fd) : FnOk P w K mg base CX0 3 f fd ["self"] (spFits K "go") := by
  refine F.ok sc_Go_fits (lenP1 fun _ => rfl) (fun cdv A outer s H vs Q E hr h => ?_)
  skip
  refine bodyP1 (pss_one (ps_ret (pe_callB call_isi (by rfl) T.n_isinstance (by decide +kernel) (pa_cons (pe_fld (pv 0) rfl) (pa_cons (pe_bltn (v := .ty "bool") (by rfl) T.n_bool (by decide +kernel) rfl) pa_nil))))) ?_ h
  rintro r G M vs hp ha
  obtain ⟨v1, rfl, h1⟩ := als1 ha
  have h_self := h1
  have hw : r.w ∈ WORDS := by rw [hp]; decide
  refine s_ret (ev_isiD (ev_fldO (ev_var rfl h_self) (fun _ _ h => h) (T.cl _ hw) (T.na_worth _ hw) fR_worth rfl)) fun v1 G2 e3 hv => ?_
  replace h_self := Pr.m _ e3 h_self
  exact ⟨⟨[], List.Perm.refl _⟩, by rw [hp, fits_go]; exact hv⟩
theorem sc_Least_fits : FnScope ["self"] ["self"] (defScope (inClass (top 16) 1)) := ⟨rfl, rfl, rfl, by decide +kernel, rfl, by decide +kernel, by decide +kernel⟩
theorem ok_Least_fits (T : Tx K mg) (c_is_nights : C8.Cal P w K mg base 2 "is_nights" (spNights K) []) {f : Addr} {fd : FuncData} (F : FnP K "fits" "Least.fits" (inClass (top 16) 1) f fd) : FnOk P w K mg base CX0 3 f fd ["self"] (spFits K "least") := by
  refine F.ok sc_Least_fits (lenP1 fun _ => rfl) (fun cdv A outer s H vs Q E hr h => ?_)
  skip
  refine bodyP1 (pss_one (ps_ret (C8.pe_c c_is_nights hr (by decide) (by rfl) (pa_cons (pe_fld (pv 0) rfl) pa_nil)))) ?_ h
  rintro r G M vs hp ha
  obtain ⟨v1, rfl, h1⟩ := als1 ha
  have h_self := h1
  have hw : r.w ∈ WORDS := by rw [hp]; decide
  refine s_ret (ec_P1 (ea_cons (ev_fldO (ev_var rfl h_self) (fun _ _ h => h) (T.cl _ hw) (T.na_worth _ hw) fR_worth rfl) ea_nil) trivial) fun v1 G2 e3 hv => ?_
  replace h_self := Pr.m _ e3 h_self
  exact ⟨⟨[], List.Perm.refl _⟩, by rw [hp, fits_least]; exact hv⟩
theorem sc_Most_fits : FnScope ["self"] ["self"] (defScope (inClass (top 17) 1)) := ⟨rfl, rfl, rfl, by decide +kernel, rfl, by decide +kernel, by decide +kernel⟩
theorem ok_Most_fits (T : Tx K mg) (c_is_nights : C8.Cal P w K mg base 2 "is_nights" (spNights K) []) {f : Addr} {fd : FuncData} (F : FnP K "fits" "Most.fits" (inClass (top 17) 1) f fd) : FnOk P w K mg base CX0 3 f fd ["self"] (spFits K "most") := by
  refine F.ok sc_Most_fits (lenP1 fun _ => rfl) (fun cdv A outer s H vs Q E hr h => ?_)
  skip
  refine bodyP1 (pss_one (ps_ret (C8.pe_c c_is_nights hr (by decide) (by rfl) (pa_cons (pe_fld (pv 0) rfl) pa_nil)))) ?_ h
  rintro r G M vs hp ha
  obtain ⟨v1, rfl, h1⟩ := als1 ha
  have h_self := h1
  have hw : r.w ∈ WORDS := by rw [hp]; decide
  refine s_ret (ec_P1 (ea_cons (ev_fldO (ev_var rfl h_self) (fun _ _ h => h) (T.cl _ hw) (T.na_worth _ hw) fR_worth rfl) ea_nil) trivial) fun v1 G2 e3 hv => ?_
  replace h_self := Pr.m _ e3 h_self
  exact ⟨⟨[], List.Perm.refl _⟩, by rw [hp, fits_most]; exact hv⟩
theorem sc_Deal_fits : FnScope ["self", "many", "free"] ["self"] (defScope (inClass (top 18) 1)) := ⟨rfl, rfl, rfl, by decide +kernel, rfl, by decide +kernel, by decide +kernel⟩
theorem ok_Deal_fits (T : Tx K mg) (c_is_nights : C8.Cal P w K mg base 2 "is_nights" (spNights K) []) (c_is_whole : C8.Cal P w K mg base 1 "is_whole" (spWhole K) []) {f : Addr} {fd : FuncData} (F : FnP K "fits" "Deal.fits" (inClass (top 18) 1) f fd) : FnOk P w K mg base CX0 3 f fd ["self"] (spFits K "deal") := by
  refine F.ok sc_Deal_fits (lenP1 fun _ => rfl) (fun cdv A outer s H vs Q E hr h => ?_)
  skip
  refine bodyP1 (pss_cons (ps_if (pt_cmpR op_isN (pe_fld (pv 0) rfl) pe_non (nomark _)) (pss_one (ps_ret pe_bl)) pss_nil)
        (pss_cons (ps_if (PW.pt (pw_or (pt_not (pt_val (pe_callB call_isi (by rfl) T.n_isinstance (by decide +kernel) (pa_cons (pe_fld (pv 0) rfl) (pa_cons (pe_bltn (v := .ty "tuple") (by rfl) T.n_tuple (by decide +kernel) rfl) pa_nil))))) (pw_or1 (pt_cmpR op_ne (pe_callB call_len (by rfl) T.n_len (by decide +kernel) (pa_cons (pe_fld (pv 0) rfl) pa_nil)) pe_int (nomark _))))) (pss_one (ps_ret pe_bl)) pss_nil)
        (pss_cons (ps_asg (pe_fld (pv 0) rfl) (pg_tup (by rfl) (pgs_cons (pg_name (i := 1) sc_Deal_fits.nd rfl (by first | exact Or.inl rfl | exact Or.inr rfl)) (pgs_cons (pg_name (i := 2) sc_Deal_fits.nd rfl (by first | exact Or.inl rfl | exact Or.inr rfl)) pgs_nil))))
        (pss_one (ps_ret (pe_and (C8.pe_c c_is_nights hr (by decide) (by rfl) (pa_cons (pv 1) pa_nil)) (pe_and (C8.pe_c c_is_whole hr (by decide) (by rfl) (pa_cons (pv 2) pa_nil)) (pe_one (pe_chain op_le op_lt pe_int (pv 2) (pv 1)))))))))) ?_ h
  rintro r G M vs hp ha
  obtain ⟨v1, rfl, h1⟩ := als1 ha
  have h_self := h1
  have hw : r.w ∈ WORDS := by rw [hp]; decide
  refine q_when (et_test (ev_isNb (ev_fldO (ev_var rfl h_self) (fun _ _ h => h) (T.cl _ hw) (T.na_worth _ hw) fR_worth rfl) isNone_h)) (fun hc => ?_) (fun hc => ?_)
  · refine s_ret ev_c fun v G1 e1 hv => ?_
    exact ⟨⟨[], List.Perm.refl _⟩, by rw [hp, fits_deal, isNone_of hc]; exact hv⟩
  · refine q_when (M1 := M) (b := dealBad r.d) ?_ (fun hc2 => ?_) (fun hc2 => ?_)
    · refine EvT.is (et_or (b := dealB1 r.d) (et_not (et_B (ev_isiD (ev_fldO (ev_var rfl h_self) (fun _ _ h => h) (T.cl _ hw) (T.na_worth _ hw) fR_worth rfl)))) (fun hb => ?_)) rfl
      obtain ⟨ds, hd⟩ := tup_of hb
      exact EvT.is (et_test (ev_ne (ev_lenT (Ev.vT (Ev.asD (ev_fldO (ev_var rfl h_self) (fun _ _ h => h) (T.cl _ hw) (T.na_worth _ hw) fR_worth rfl) hd))) ev_c rfl)) (by rw [hd, List.length_map]; rfl)
    · refine s_ret ev_c fun v G1 e1 hv => ?_
      exact ⟨⟨[], List.Perm.refl _⟩, by rw [hp, fits_deal, deal_bad hc hc2]; exact hv⟩
    · obtain ⟨x, y, hd⟩ := deal_two hc2
      refine q_asg (Ev.vT (ds := [x, y]) (Ev.asD (ev_fldO (ev_var rfl h_self) (fun _ _ h => h) (T.cl _ hw) (T.na_worth _ hw) fR_worth rfl) hd)) fun G1 e1 => ?_
      refine ag_tup (ags_cons (ag_name fun v_many h_many => ags_cons (ag_name fun v_free h_free => ags_nil ?_)))
      refine s_ret (ev_andV (b := isWhole y && freeB x y) (ec_P1 (ea_cons (ev_var rfl h_many) ea_nil) trivial) (fun hb => ev_andV (b := freeB x y) (ec_P1 (ea_cons (ev_var rfl h_free) ea_nil) trivial) (fun hb2 => ?_))) fun v G2 e2 hv => ?_
      · obtain ⟨m, rfl⟩ := nights_int hb
        obtain ⟨n, rfl⟩ := whole_int hb2
        exact ev_chain ev_c (Ev.vI (K := K) (ev_var rfl h_free)) (Ev.vI (K := K) (ev_var rfl h_many)) (fun _ _ q => ⟨_, _, rfl, rfl, q⟩) (fun _ _ q => ⟨_, _, rfl, rfl, q⟩)
      · exact ⟨⟨[], List.Perm.refl _⟩, by rw [hp, fits_deal, hd]; exact hv⟩
theorem sc_Fee_fits : FnScope ["self"] ["self"] (defScope (inClass (top 19) 1)) := ⟨rfl, rfl, rfl, by decide +kernel, rfl, by decide +kernel, by decide +kernel⟩
theorem ok_Fee_fits (T : Tx K mg) (c_is_coins : C8.Cal P w K mg base 2 "is_coins" (spCoinsP K) []) {f : Addr} {fd : FuncData} (F : FnP K "fits" "Fee.fits" (inClass (top 19) 1) f fd) : FnOk P w K mg base CX0 3 f fd ["self"] (spFits K "fee") := by
  refine F.ok sc_Fee_fits (lenP1 fun _ => rfl) (fun cdv A outer s H vs Q E hr h => ?_)
  skip
  refine bodyP1 (pss_one (ps_ret (C8.pe_c c_is_coins hr (by decide) (by rfl) (pa_cons (pe_fld (pv 0) rfl) pa_nil)))) ?_ h
  rintro r G M vs hp ha
  obtain ⟨v1, rfl, h1⟩ := als1 ha
  have h_self := h1
  have hw : r.w ∈ WORDS := by rw [hp]; decide
  refine s_ret (ec_P1 (ea_cons (ev_fldO (ev_var rfl h_self) (fun _ _ h => h) (T.cl _ hw) (T.na_worth _ hw) fR_worth rfl) ea_nil) trivial) fun v1 G2 e3 hv => ?_
  replace h_self := Pr.m _ e3 h_self
  exact ⟨⟨[], List.Perm.refl _⟩, by rw [hp, fits_fee]; exact hv⟩
theorem sc_Rule_told : FnScope ["self"] ["self"] (defScope (inClass (top 12) 4)) := ⟨rfl, rfl, rfl, by decide +kernel, rfl, by decide +kernel, by decide +kernel⟩
theorem ok_Rule_told (T : Tx K mg)  (c_word : ∀ w0 ∈ WORDS, C8.Met P w K mg base 1 (cAd K w0) "word" (spWord K w0) []) {f : Addr} {fd : FuncData} (F : FnP K "told" "Rule.told" (inClass (top 12) 4) f fd) : FnOk P w K mg base CX0 2 f fd ["self"] (spTold K) := by
  refine F.ok sc_Rule_told (lenP1 fun _ => rfl) (fun cdv A outer s H vs Q E hr h => ?_)
  skip
  refine bodyP1 (pss_one (ps_ret (pe_tup (pa_cons (pe_mtV0 (cA := cAd K) (S := fun w => w ∈ WORDS) (sp := spWord K) c_word hr (by decide) (pv 0)) (pa_cons (pe_fld (pv 0) rfl) (pa_cons (pe_fld (pv 0) rfl) (pa_cons (pe_fld (pv 0) rfl) pa_nil))))))) ?_ h
  rintro r G M vs hp ha
  obtain ⟨v1, rfl, h1⟩ := als1 ha
  have h_self := h1
  refine s_ret (ev_tupD (ds := [_, _, _, _]) (ea_cons (Ev.dS (K := K) (ev_mtV (c0 := _) (ev_var rfl h_self) (rl_inst (by decide +kernel)) hp ea_nil (fun v vs G' H' e A hv hvs Q k => ⟨_, G', _, rfl, ⟨hv, hvs⟩, A, k⟩))) (ea_cons (Ev.dI (K := K) (ev_fldO (ev_var rfl h_self) (fun _ _ h => h) (T.cl _ hp) (T.na_first _ hp) fR_first rfl)) (ea_cons (Ev.dI (K := K) (ev_fldO (ev_var rfl h_self) (fun _ _ h => h) (T.cl _ hp) (T.na_last _ hp) fR_last rfl)) (ea_cons (ev_fldO (ev_var rfl h_self) (fun _ _ h => h) (T.cl _ hp) (T.na_worth _ hp) fR_worth rfl) ea_nil))))) fun v1 G2 e3 hv => ?_
  replace h_self := Pr.m _ e3 h_self
  exact ⟨⟨[], List.Perm.refl _⟩, hv⟩
theorem sc_made : FnScope ["word", "first", "last", "worth"] ["word", "first", "last", "worth"] (defScope (top 20)) := ⟨rfl, rfl, rfl, by decide +kernel, rfl, by decide +kernel, by decide +kernel⟩
theorem ok_made (T : Tx K mg)  (k_Price : C8.Mak P w K mg base 1 "Price" (He.ga K "Price") (spRInit K) []) (k_Come : C8.Mak P w K mg base 1 "Come" (He.ga K "Come") (spRInit K) []) (k_Go : C8.Mak P w K mg base 1 "Go" (He.ga K "Go") (spRInit K) []) (k_Least : C8.Mak P w K mg base 1 "Least" (He.ga K "Least") (spRInit K) []) (k_Most : C8.Mak P w K mg base 1 "Most" (He.ga K "Most") (spRInit K) []) (k_Deal : C8.Mak P w K mg base 1 "Deal" (He.ga K "Deal") (spRInit K) []) (k_Fee : C8.Mak P w K mg base 1 "Fee" (He.ga K "Fee") (spRInit K) []) {f : Addr} {fd : FuncData} (F : FnP K "made" "made" (top 20) f fd) : FnOk P w K mg base CX0 3 f fd ["word", "first", "last", "worth"] (spMade K) := by
  refine F.ok sc_made (lenP4 fun _ _ _ _ => rfl) (fun cdv A outer s H vs Q E hr h => ?_)
  skip
  refine bodyP4 (pss_cons (ps_if (pt_cmpR op_eq (pv 0) pe_str (nomark _)) (pss_one (ps_ret (C8.pe_mk k_Price hr (by decide) (by rfl) (pa_cons (pv 1) (pa_cons (pv 2) (pa_cons (pv 3) pa_nil)))))) pss_nil)
        (pss_cons (ps_if (pt_cmpR op_eq (pv 0) pe_str (nomark _)) (pss_one (ps_ret (C8.pe_mk k_Come hr (by decide) (by rfl) (pa_cons (pv 1) (pa_cons (pv 2) (pa_cons (pv 3) pa_nil)))))) pss_nil)
        (pss_cons (ps_if (pt_cmpR op_eq (pv 0) pe_str (nomark _)) (pss_one (ps_ret (C8.pe_mk k_Go hr (by decide) (by rfl) (pa_cons (pv 1) (pa_cons (pv 2) (pa_cons (pv 3) pa_nil)))))) pss_nil)
        (pss_cons (ps_if (pt_cmpR op_eq (pv 0) pe_str (nomark _)) (pss_one (ps_ret (C8.pe_mk k_Least hr (by decide) (by rfl) (pa_cons (pv 1) (pa_cons (pv 2) (pa_cons (pv 3) pa_nil)))))) pss_nil)
        (pss_cons (ps_if (pt_cmpR op_eq (pv 0) pe_str (nomark _)) (pss_one (ps_ret (C8.pe_mk k_Most hr (by decide) (by rfl) (pa_cons (pv 1) (pa_cons (pv 2) (pa_cons (pv 3) pa_nil)))))) pss_nil)
        (pss_cons (ps_if (pt_cmpR op_eq (pv 0) pe_str (nomark _)) (pss_one (ps_ret (C8.pe_mk k_Deal hr (by decide) (by rfl) (pa_cons (pv 1) (pa_cons (pv 2) (pa_cons (pv 3) pa_nil)))))) pss_nil)
        (pss_one (ps_ret (C8.pe_mk k_Fee hr (by decide) (by rfl) (pa_cons (pv 1) (pa_cons (pv 2) (pa_cons (pv 3) pa_nil)))))))))))) ?_ h
  rintro w f l d G M vs hp ha
  obtain ⟨v1, v2, v3, v4, rfl, h1, h2, h3, h4⟩ := als4 ha
  cases (show v1 = _ from h1)
  cases (show v2 = _ from h2)
  cases (show v3 = _ from h3)
  have h_worth := h4
  refine q_when (et_test (ev_eq (ev_varV rfl) ev_c rfl)) (fun hc1 => ?_) (fun hc1 => ?_)
  · skip
    refine s_ret (ei_rule hp (by simp only [cAd, hc1, ↓reduceIte, Bool.false_eq_true]) (ea_cons (ev_varV rfl) (ea_cons (ev_varV rfl) (ea_cons (ev_var rfl h_worth) ea_nil)))) fun v5 G6 e7 hv => ?_
    replace h_worth := Pr.m _ e7 h_worth
    exact ⟨⟨[], List.Perm.refl _⟩, hv⟩
  · skip
    refine q_when (et_test (ev_eq (ev_varV rfl) ev_c rfl)) (fun hc8 => ?_) (fun hc8 => ?_)
    · skip
      refine s_ret (ei_rule hp (by simp only [cAd, hc1, hc8, ↓reduceIte, Bool.false_eq_true]) (ea_cons (ev_varV rfl) (ea_cons (ev_varV rfl) (ea_cons (ev_var rfl h_worth) ea_nil)))) fun v12 G13 e14 hv => ?_
      replace h_worth := Pr.m _ e14 h_worth
      exact ⟨⟨[], List.Perm.refl _⟩, hv⟩
    · skip
      refine q_when (et_test (ev_eq (ev_varV rfl) ev_c rfl)) (fun hc15 => ?_) (fun hc15 => ?_)
      · skip
        refine s_ret (ei_rule hp (by simp only [cAd, hc1, hc8, hc15, ↓reduceIte, Bool.false_eq_true]) (ea_cons (ev_varV rfl) (ea_cons (ev_varV rfl) (ea_cons (ev_var rfl h_worth) ea_nil)))) fun v19 G20 e21 hv => ?_
        replace h_worth := Pr.m _ e21 h_worth
        exact ⟨⟨[], List.Perm.refl _⟩, hv⟩
      · skip
        refine q_when (et_test (ev_eq (ev_varV rfl) ev_c rfl)) (fun hc22 => ?_) (fun hc22 => ?_)
        · skip
          refine s_ret (ei_rule hp (by simp only [cAd, hc1, hc8, hc15, hc22, ↓reduceIte, Bool.false_eq_true]) (ea_cons (ev_varV rfl) (ea_cons (ev_varV rfl) (ea_cons (ev_var rfl h_worth) ea_nil)))) fun v26 G27 e28 hv => ?_
          replace h_worth := Pr.m _ e28 h_worth
          exact ⟨⟨[], List.Perm.refl _⟩, hv⟩
        · skip
          refine q_when (et_test (ev_eq (ev_varV rfl) ev_c rfl)) (fun hc29 => ?_) (fun hc29 => ?_)
          · skip
            refine s_ret (ei_rule hp (by simp only [cAd, hc1, hc8, hc15, hc22, hc29, ↓reduceIte, Bool.false_eq_true]) (ea_cons (ev_varV rfl) (ea_cons (ev_varV rfl) (ea_cons (ev_var rfl h_worth) ea_nil)))) fun v33 G34 e35 hv => ?_
            replace h_worth := Pr.m _ e35 h_worth
            exact ⟨⟨[], List.Perm.refl _⟩, hv⟩
          · skip
            refine q_when (et_test (ev_eq (ev_varV rfl) ev_c rfl)) (fun hc36 => ?_) (fun hc36 => ?_)
            · skip
              refine s_ret (ei_rule hp (by simp only [cAd, hc1, hc8, hc15, hc22, hc29, hc36, ↓reduceIte, Bool.false_eq_true]) (ea_cons (ev_varV rfl) (ea_cons (ev_varV rfl) (ea_cons (ev_var rfl h_worth) ea_nil)))) fun v40 G41 e42 hv => ?_
              replace h_worth := Pr.m _ e42 h_worth
              exact ⟨⟨[], List.Perm.refl _⟩, hv⟩
            · skip
              refine s_ret (ei_rule hp (by simp only [cAd, hc1, hc8, hc15, hc22, hc29, hc36, ↓reduceIte, Bool.false_eq_true]) (ea_cons (ev_varV rfl) (ea_cons (ev_varV rfl) (ea_cons (ev_var rfl h_worth) ea_nil)))) fun v43 G44 e45 hv => ?_
              replace h_worth := Pr.m _ e45 h_worth
              exact ⟨⟨[], List.Perm.refl _⟩, hv⟩
theorem sc_rule_of : FnScope ["thing", "rule"] ["thing"] (defScope (top 21)) := ⟨rfl, rfl, rfl, by decide +kernel, rfl, by decide +kernel, by decide +kernel⟩
theorem ok_rule_of (T : Tx K mg) (c_is_stretch : C8.Cal P w K mg base 4 "is_stretch" (spStr2 K) []) (c_made : C8.Cal P w K mg base 3 "made" (spMade K) []) (c_fits : ∀ w0 ∈ WORDS, C8.Met P w K mg base 3 (cAd K w0) "fits" (spFits K w0) []) {f : Addr} {fd : FuncData} (F : FnP K "rule_of" "rule_of" (top 21) f fd) : FnOk P w K mg base CX0 5 f fd ["thing"] (spRuleOf K) := by
  refine F.ok sc_rule_of (lenP1 fun _ => rfl) (fun cdv A outer s H vs Q E hr h => ?_)
  skip
  refine bodyP1 (pss_cons (ps_if (PW.pt (pw_or (pt_not (pt_val (pe_callB call_isi (by rfl) T.n_isinstance (by decide +kernel) (pa_cons (pv 0) (pa_cons (pe_bltn (v := .ty "tuple") (by rfl) T.n_tuple (by decide +kernel) rfl) pa_nil))))) (pw_or (pt_cmpR op_ne (pe_callB call_len (by rfl) T.n_len (by decide +kernel) (pa_cons (pv 0) pa_nil)) pe_int (nomark _)) (pw_or (pt_not (pt_val (pe_callB call_isi (by rfl) T.n_isinstance (by decide +kernel) (pa_cons (pe_ix ix_tup (pv 0) pe_int (fun _ _ => rfl)) (pa_cons (pe_bltn (v := .ty "str") (by rfl) T.n_str (by decide +kernel) rfl) pa_nil))))) (pw_or1 (pt_cmpR op_notIn_seq (pe_ix ix_tup (pv 0) pe_int (fun _ _ => rfl)) (pe_glob (v := .ref (He.ga K "WORDS")) (by rfl) T.m_WORDS rfl) (by with_unfolding_all rfl))))))) (pss_one (ps_ret pe_non)) pss_nil)
        (pss_cons (ps_if (pt_not (pt_val (C8.pe_c c_is_stretch hr (by decide) (by rfl) (pa_cons (pe_tup (pa_cons (pe_ix ix_tup (pv 0) pe_int (fun _ _ => rfl)) (pa_cons (pe_ix ix_tup (pv 0) pe_int (fun _ _ => rfl)) pa_nil))) pa_nil)))) (pss_one (ps_ret pe_non)) pss_nil)
        (pss_cons (ps_set (i := 1) sc_rule_of.nd rfl (by first | exact Or.inl rfl | exact Or.inr rfl) (C8.pe_c c_made hr (by decide) (by rfl) (pa_cons (pe_ix ix_tup (pv 0) pe_int (fun _ _ => rfl)) (pa_cons (pe_ix ix_tup (pv 0) pe_int (fun _ _ => rfl)) (pa_cons (pe_ix ix_tup (pv 0) pe_int (fun _ _ => rfl)) (pa_cons (pe_ix ix_tup (pv 0) pe_int (fun _ _ => rfl)) pa_nil))))))
        (pss_cons (ps_if (pt_not (pt_val (pe_mtV0 (cA := cAd K) (S := fun w => w ∈ WORDS) (sp := spFits K) c_fits hr (by decide) (pv 1)))) (pss_one (ps_ret pe_non)) pss_nil)
        (pss_one (ps_ret (pv 1))))))) ?_ h
  rintro d G M vs hp ha
  obtain ⟨v1, rfl, h1⟩ := als1 ha
  have h_thing := h1
  refine q_when (M1 := M) (b := topBad d) ?_ (fun hc => ?_) (fun hc => ?_)
  · refine EvT.is (et_or (b := tb1 d) (et_not (et_B (ev_isiD (ev_var rfl h_thing)))) (fun hb => ?_)) rfl
    obtain ⟨ds, rfl⟩ := tup_of hb
    refine EvT.is (et_or (b := tb2 ds) (et_test (ev_ne (ev_lenT (Ev.vT (ev_var rfl h_thing))) ev_c rfl)) (fun hb2 => ?_)) (by simp [tb1])
    rw [List.length_map] at hb2
    obtain ⟨x1, x2, x3, x4, rfl⟩ := len4 hb2
    refine EvT.is (et_or (b := tb3 x1) (et_not (et_B (ev_isiD (ev_ixT (Ev.vT (ev_var rfl h_thing)) ev_c rfl)))) (fun hb3 => ?_)) rfl
    obtain ⟨w, rfl⟩ := str_of hb3
    exact et_test (ev_ninT (vs := WORDS.map V.str) (Ev.vS (K := K) (ev_ixT (Ev.vT (ev_var rfl h_thing)) ev_c rfl)) (ev_cP (T.p_WORDS _)) rfl rfl)
  · refine s_ret ev_c fun v G1 e1 hv => ?_
    exact ⟨⟨[], List.Perm.refl _⟩, by rw [rule_top hc]; exact hv⟩
  · obtain ⟨w, a, b, c, rfl, hw⟩ := top_of hc
    refine q_when (et_not (et_B (ec_P2 (ea_cons (ev_tupD (ds := [_, _]) (ea_cons (ev_ixT (Ev.vT (ev_var rfl h_thing)) ev_c rfl) (ea_cons (ev_ixT (Ev.vT (ev_var rfl h_thing)) ev_c rfl) ea_nil))) ea_nil) trivial))) (fun hc2 => ?_) (fun hc2 => ?_)
    · refine s_ret ev_c fun v G1 e1 hv => ?_
      exact ⟨⟨[], List.Perm.refl _⟩, by rw [rule_str (by simpa using hc2)]; exact hv⟩
    · have hc3 : isStr2 a b = true := by simpa using hc2
      obtain ⟨f0, l0, rfl, rfl⟩ := str2_of hc3
      refine q_set (ec_P4 (ea_cons (Ev.vS (K := K) (ev_ixT (Ev.vT (ev_var rfl h_thing)) ev_c rfl)) (ea_cons (Ev.vI (K := K) (ev_ixT (Ev.vT (ev_var rfl h_thing)) ev_c rfl)) (ea_cons (Ev.vI (K := K) (ev_ixT (Ev.vT (ev_var rfl h_thing)) ev_c rfl)) (ea_cons (ev_ixT (Ev.vT (ev_var rfl h_thing)) ev_c rfl) ea_nil)))) hw) fun v1 G1 e1 h_rule => ?_
      refine q_when (et_not (et_B (ev_mtV (c0 := w) (ev_var rfl h_rule) (rl_inst (r := ⟨w, f0, l0, c⟩) (by decide +kernel)) hw ea_nil (fun v vs G' H' e A hv hvs Q k => ⟨_, G', _, rfl, ⟨hv, hvs⟩, A, k⟩)))) (fun hc4 => ?_) (fun hc4 => ?_)
      · refine s_ret ev_c fun v G2 e2 hv => ?_
        have e : fitsW w c = false := by simpa using hc4
        exact ⟨⟨[], List.Perm.refl _⟩, by rw [rule_some hw hc3, e]; exact hv⟩
      · refine s_ret (ev_var rfl h_rule) fun v G2 e2 hv => ?_
        have e : fitsW w c = true := by simpa using hc4
        exact ⟨⟨[], List.Perm.refl _⟩, by rw [rule_some hw hc3, e]; exact hv⟩
theorem sc_worth_text : FnScope ["word", "worth"] ["word", "worth"] (defScope (top 24)) := ⟨rfl, rfl, rfl, by decide +kernel, rfl, by decide +kernel, by decide +kernel⟩
theorem ok_worth_text (T : Tx K mg)  {f : Addr} {fd : FuncData} (F : FnP K "worth_text" "worth_text" (top 24) f fd) : FnOk P w K mg base CX0 1 f fd ["word", "worth"] (spWText K) := by
  refine F.ok sc_worth_text (lenP2 fun _ _ => rfl) (fun cdv A outer s H vs Q E hr h => ?_)
  skip
  refine bodyP2 (pss_cons (ps_if (pt_cmpR op_isN (pv 1) pe_non (nomark _)) (pss_one (ps_ret pe_str)) pss_nil)
        (pss_cons (ps_if (PW.pt (pw_or (pt_cmpR op_eq (pv 0) pe_str (nomark _)) (pw_or1 (pt_cmpR op_eq (pv 0) pe_str (nomark _))))) (pss_one (ps_ret (pe_ix ix_list (pe_lst (pa_cons pe_str (pa_cons pe_str pa_nil))) (pe_callTy call_int1 (by rfl) T.n_int (by decide +kernel) (pa_cons (pv 1) pa_nil)) (fun _ _ => rfl)))) pss_nil)
        (pss_cons (ps_if (pt_cmpR op_eq (pv 0) pe_str (nomark _)) (pss_one (ps_ret (pe_joined (PJ.cons (pe_fmt (pe_ix ix_tup (pv 1) pe_int (fun _ _ => rfl))) (PJ.cons pe_str (PJ.cons (pe_fmt (pe_ix ix_tup (pv 1) pe_int (fun _ _ => rfl))) PJ.nil)))))) pss_nil)
        (pss_one (ps_ret (pe_callTy call_str_int (by rfl) T.n_str (by decide +kernel) (pa_cons (pv 1) pa_nil))))))) ?_ h
  rintro w d G M vs hp ha
  obtain ⟨v1, v2, rfl, h1, h2⟩ := als2 ha
  cases (show v1 = _ from h1)
  have h_worth := h2
  refine q_when (et_test (ev_isNb (ev_var rfl h_worth) isNone_h)) (fun hc => ?_) (fun hc => ?_)
  · cases isNone_of hc
    refine s_ret ev_c fun v G1 e1 hv => ?_
    exact ⟨⟨[], List.Perm.refl _⟩, hv⟩
  · refine q_when (et_or (et_test (ev_eq (ev_varV rfl) ev_c rfl)) (fun _ => et_test (ev_eq (ev_varV rfl) ev_c rfl))) (fun hc2 => ?_) (fun hc2 => ?_)
    · obtain ⟨b, rfl⟩ := wOk_bool hp hc hc2
      refine s_ret (ev_ixOS [_, _] (eo_lst (ea_cons ev_c (ea_cons ev_c ea_nil))) (ev_intB (Ev.vB (K := K) (ev_var rfl h_worth))) 2 (by cases b <;> decide) (by cases b <;> decide)) fun v G1 e1 hv => ?_
      exact ⟨⟨[], List.Perm.refl _⟩, by cases b <;> exact hv⟩
    · refine q_when (et_test (ev_eq (ev_varV rfl) ev_c rfl)) (fun hc3 => ?_) (fun hc3 => ?_)
      · obtain ⟨m, n, rfl, hm, hn⟩ := wOk_deal hp hc hc3
        refine s_ret (ev_fstr (ej_cons (ev_fmtI (Ev.vI (K := K) (ev_ixT (Ev.vT (ev_var rfl h_worth)) ev_c rfl)) (small_log hm)) (ej_cons ev_c (ej_cons (ev_fmtI (Ev.vI (K := K) (ev_ixT (Ev.vT (ev_var rfl h_worth)) ev_c rfl)) (small_log hn)) ej_nil (deal_z3 hm hn)) (deal_z2 hm)) (deal_z1 hm))) fun v G1 e1 hv => ?_
        rw [Str.empty_append] at hv
        exact ⟨⟨[], List.Perm.refl _⟩, hv⟩
      · obtain ⟨n, rfl, hn⟩ := wOk_int hp hc hc2 hc3
        refine s_ret (ev_strI (Ev.vI (K := K) (ev_var rfl h_worth)) (small_log hn)) fun v G1 e1 hv => ?_
        exact ⟨⟨[], List.Perm.refl _⟩, hv⟩
theorem sc_rule_text : FnScope ["rule", "word", "first", "last", "worth"] ["rule"] (defScope (top 25)) := ⟨rfl, rfl, rfl, by decide +kernel, rfl, by decide +kernel, by decide +kernel⟩
theorem ok_rule_text (T : Tx K mg) (c_worth_text : C8.Cal P w K mg base 1 "worth_text" (spWText K) []) {f : Addr} {fd : FuncData} (F : FnP K "rule_text" "rule_text" (top 25) f fd) : FnOk P w K mg base CX0 2 f fd ["rule"] (spRText K) := by
  refine F.ok sc_rule_text (lenP1 fun _ => rfl) (fun cdv A outer s H vs Q E hr h => ?_)
  skip
  refine bodyP1 (pss_cons (ps_asg (pv 0) (pg_tup (by rfl) (pgs_cons (pg_name (i := 1) sc_rule_text.nd rfl (by first | exact Or.inl rfl | exact Or.inr rfl)) (pgs_cons (pg_name (i := 2) sc_rule_text.nd rfl (by first | exact Or.inl rfl | exact Or.inr rfl)) (pgs_cons (pg_name (i := 3) sc_rule_text.nd rfl (by first | exact Or.inl rfl | exact Or.inr rfl)) (pgs_cons (pg_name (i := 4) sc_rule_text.nd rfl (by first | exact Or.inl rfl | exact Or.inr rfl)) pgs_nil))))))
        (pss_one (ps_ret (pe_joined (PJ.cons (pe_fmt (pv 1)) (PJ.cons pe_str (PJ.cons (pe_fmt (pv 2)) (PJ.cons pe_str (PJ.cons (pe_fmt (pv 3)) (PJ.cons pe_str (PJ.cons (pe_fmt (C8.pe_c c_worth_text hr (by decide) (by rfl) (pa_cons (pv 1) (pa_cons (pv 4) pa_nil)))) PJ.nil))))))))))) ?_ h
  rintro r G M vs hp ha
  obtain ⟨v1, rfl, h1⟩ := als1 ha
  have h_rule := h1
  obtain ⟨hw, hf, hl, hz⟩ := rOk_parts hp
  refine q_asg (Ev.vT (ds := [_, _, _, _]) (ev_var rfl h_rule)) fun G1 e1 => ?_
  refine ag_tup (ags_cons (ag_name fun v_word h_word => ags_cons (ag_name fun v_first h_first => ags_cons (ag_name fun v_last h_last => ags_cons (ag_name fun v_worth h_worth => ags_nil ?_)))))
  refine s_ret (ev_fstr (ej_cons (ev_fmtS (Ev.vS (K := K) (ev_var rfl h_word)) (Nat.le_trans hz (by decide))) (ej_cons ev_c (ej_cons (ev_fmtI (Ev.vI (K := K) (ev_var rfl h_first)) (small_log hf)) (ej_cons ev_c (ej_cons (ev_fmtI (Ev.vI (K := K) (ev_var rfl h_last)) (small_log hl)) (ej_cons ev_c (ej_cons (ev_fmtS (ec_P2 (ea_cons (Ev.vS (K := K) (ev_var rfl h_word)) (ea_cons (ev_var rfl h_worth) ea_nil)) hw) (Nat.le_trans (wtext_len hw) (by decide))) ej_nil (rt_z hz hf hl hw 6)) (rt_z hz hf hl hw 5)) (rt_z hz hf hl hw 4)) (rt_z hz hf hl hw 3)) (rt_z hz hf hl hw 2)) (rt_z hz hf hl hw 1)) (rt_z hz hf hl hw 0))) fun v G2 e2 hv => ?_
  rw [Str.empty_append] at hv
  exact ⟨⟨[], List.Perm.refl _⟩, hv⟩
theorem sc_number_by : FnScope ["word", "sign"] ["word"] (defScope (top 26)) := ⟨rfl, rfl, rfl, by decide +kernel, rfl, by decide +kernel, by decide +kernel⟩
theorem ok_number_by (T : Tx K mg)  {f : Addr} {fd : FuncData} (F : FnP K "number_by" "number_by" (top 26) f fd) : FnOk P w K mg base CX0 1 f fd ["word"] (spNum K) := by
  refine F.ok sc_number_by (lenP1 fun _ => rfl) (fun cdv A outer s H vs Q E hr h => ?_)
  skip
  refine bodyP1 (pss_cons (ps_if (PW.pt (pw_or (pt_cmpR op_eq (pv 0) pe_str (nomark _)) (pw_or (pt_not (pt_val (pe_callB (cr_all rfl) (by rfl) T.n_all (by decide +kernel) (pa_cons (pe_lc (own := [("sign", 1)]) (g := (gName 1)) (by rfl) sc_number_by.nd (pi_str (pv 0)) (blkOk_by (own := [("sign", 1)]) (N := ["word", "sign"]) (sc := defScope (top 26)) (by decide +kernel)) (fun _ _ _ _ _ => (pg_name (i := 1) sc_number_by.nd rfl (by first | exact Or.inl rfl | exact Or.inr rfl))) (fun _ _ _ _ _ => pts_nil) (fun _ _ _ _ _ => (pe_cmpR op_in_sign (pv 1) (C8.pe_gc (by rfl) T.m_FIGURES) rfl))) pa_nil)))) (pw_or1 (PW.pt (pw_and (pt_cmpR op_eq (pe_ix ix_str (pv 0) pe_int (fun _ _ => rfl)) pe_str (nomark _)) (pw_and1 (pt_cmpR op_ne (pv 0) pe_str (nomark _))))))))) (pss_one (ps_ret pe_non)) pss_nil)
        (pss_one (ps_ret (pe_callTy call_int_str (by rfl) T.n_int (by decide +kernel) (pa_cons (pv 0) pa_nil))))) ?_ h
  rintro w G M vs hp ha
  obtain ⟨v1, rfl, h1⟩ := als1 ha
  cases (show v1 = _ from h1)
  refine q_when (M1 := M) (b := numBad w) ?_ (fun hc => ?_) (fun hc => ?_)
  · refine et_or (et_test (ev_eq (ev_varV rfl) ev_c rfl)) (fun hb => ?_)
    obtain ⟨c, t, e⟩ := ne_cps hb
    refine et_or (et_not (et_B (ev_allF (f := isFig) (EvO.keep (eo_lcAW (F := fun c => pS ⟨#[c]⟩) w.cps.toList (fun c => pB (isFig c)) (iw_str (ev_varV rfl)) (by rw [Array.length_toList]; exact Nat.lt_of_le_of_lt hp (by decide)) (fun j x G1 e1 hx => ag_nameV ⟨rfl, fun Dl c => ev_inS (ev_varV rfl) ev_c⟩)))))) (fun hb2 => ?_)
    refine EvT.is (et_and (et_test (ev_eq (ev_ixS (ev_varV rfl) ev_c (Nat.le_trans hp (by decide)) (show atI w.cps.toList 0 = some c by rw [e]; exact atI_head c t)) ev_c rfl)) (fun _ => et_test (ev_ne (ev_varV rfl) ev_c rfl))) (by unfold zHead; rw [e])
  · refine s_ret (Ev.dN (K := K) ev_c) fun v G1 e1 hv => ?_
    exact ⟨⟨[], List.Perm.refl _⟩, by unfold numD; rw [if_pos hc]; exact hv⟩
  · refine s_ret (Ev.dI (K := K) (ev_intS (ev_varV rfl) (num_reads hc hp) hp)) fun v G1 e1 hv => ?_
    exact ⟨⟨[], List.Perm.refl _⟩, by unfold numD; rw [if_neg (by rw [hc]; exact Bool.false_ne_true)]; exact hv⟩
theorem sc_worths_by : FnScope ["word", "words", "numbers", "text", "worth", "one"] ["word", "words"] (defScope (top 27)) := ⟨rfl, rfl, rfl, by decide +kernel, rfl, by decide +kernel, by decide +kernel⟩
theorem ok_worths_by (T : Tx K mg) (c_number_by : C8.Cal P w K mg base 1 "number_by" (spNum K) []) {f : Addr} {fd : FuncData} (F : FnP K "worths_by" "worths_by" (top 27) f fd) : FnOk P w K mg base CX0 2 f fd ["word", "words"] (spWorths K) := by
  refine F.ok sc_worths_by (lenN2 fun _ _ => rfl) (fun cdv A outer s H vs Q E hr h => ?_)
  have hu : (A.deeper (PyProof.Rows.envOfC "worths_by" (defScope (top 27)) s.heap.objs.size f cdv)).units + 64 < cLine := by have := hr.un; omega
  refine bodyN2 (pss_cons (ps_if (PW.pt (pw_or (pt_cmpR op_eq (pv 0) pe_str (nomark _)) (pw_or1 (pt_cmpR op_eq (pv 0) pe_str (nomark _))))) (pss_one (ps_ret (pe_lc (own := [("text", 3), ("worth", 4)]) (g := (gTup K 2 (gCons (gName 3) (gCons (gName 4) gNil)))) (by rfl) sc_worths_by.nd (pi_tup (pe_tup (pa_cons (pe_tup (pa_cons pe_str (pa_cons pe_bl pa_nil))) (pa_cons (pe_tup (pa_cons pe_str (pa_cons pe_bl pa_nil))) pa_nil)))) (blkOk_by (own := [("text", 3), ("worth", 4)]) (N := ["word", "words", "numbers", "text", "worth", "one"]) (sc := defScope (top 27)) (by decide +kernel)) (fun _ _ _ _ _ => (pg_tup (by rfl) (pgs_cons (pg_name (i := 3) sc_worths_by.nd rfl (by first | exact Or.inl rfl | exact Or.inr rfl)) (pgs_cons (pg_name (i := 4) sc_worths_by.nd rfl (by first | exact Or.inl rfl | exact Or.inr rfl)) pgs_nil)))) (fun _ _ _ _ _ => pts_one (pt_cmpR (op_eqDK (K := K) rfl hu) (pv 1) (pe_lst (pa_cons (pv 3) pa_nil)) (nomark _))) (fun _ _ _ _ _ => (pv 4))))) pss_nil)
        (pss_cons (ps_if (pt_cmpR (op_eqD hu) (pv 1) (pe_lst (pa_cons pe_str pa_nil)) (nomark _)) (pss_one (ps_ret (pe_lst (pa_cons pe_non pa_nil)))) pss_nil)
        (pss_cons (ps_setLc (i := 2) (own := [("one", 5)]) (g := (gName 5)) (by rfl) sc_worths_by.nd rfl (by first | rfl) (sw_true rfl rfl rfl (by decide +kernel)) (pi_list (pv 1)) (blkOk_by (own := [("one", 5)]) (N := ["word", "words", "numbers", "text", "worth", "one"]) (sc := defScope (top 27)) (by decide +kernel)) (fun _ _ _ _ _ => (pg_name (i := 5) sc_worths_by.nd rfl (by first | exact Or.inl rfl | exact Or.inr rfl))) (fun _ _ _ _ _ => pts_nil) (fun _ _ _ _ _ => (C8.pe_c c_number_by hr (by decide) (by rfl) (pa_cons (pv 5) pa_nil))))
        (pss_cons (ps_if (pt_cmpR op_eq (pv 0) pe_str (nomark _)) (pss_one (ps_ret (pe_lst (pa_cons (pe_callTy call_tuple_of (by rfl) T.n_tuple (by decide +kernel) (pa_cons (pv 2) pa_nil)) pa_nil)))) pss_nil)
        (pss_one (ps_ret (pe_slice sl_list (pv 2) po_none (po_some (pe_callTy call_int1 (by rfl) T.n_int (by decide +kernel) (pa_cons (pe_cmpR op_eq (pe_callB call_len (by rfl) T.n_len (by decide +kernel) (pa_cons (pv 2) pa_nil)) pe_int (nomark _)) pa_nil)))))))))) ?_ h
  rintro w ws G M vs hp ha
  obtain ⟨v1, v2, rfl, h1, h2⟩ := als2 ha
  cases (show v1 = _ from h1)
  have h_words := h2
  obtain ⟨hl, hws⟩ := hp
  refine q_when (b := isYN w) (et_or (et_test (ev_eq (ev_varV rfl) ev_c rfl)) (fun _ => et_test (ev_eq (ev_varV rfl) ev_c rfl))) (fun hc => ?_) (fun hc => ?_)
  · refine s_retO (eo_lcW (F := fun x : Str × Bool => pT K [pS x.1, pB x.2]) YN (fun x => PyData.eqv (strsD ws) (strsD [x.1])) (fun x => pD K (.bool x.2)) (iw_tup (ev_tup (ea_cons (ev_tup (ea_cons ev_c (ea_cons ev_c ea_nil))) (ea_cons (ev_tup (ea_cons ev_c (ea_cons ev_c ea_nil))) ea_nil)))) (by decide) (fun j x G1 e1 hx => ?_)) fun p G1 e1 => ?_
    · replace h_words := Pr.m _ e1 h_words
      exact ag_tup (ags_cons (ag_nameV (ags_cons (ag_nameV (ags_nil ⟨rfl, fun Dl c => ⟨et_test (ev_eqD (Ev.dLS (ev_var rfl h_words)) (Ev.dLS (ws := [x.1]) (EvO.keep (eo_lst (ea_cons (ev_varV rfl) ea_nil)))) (shaped_strs hws) (shaped_yn (List.mem_of_getElem? hx))), fun _ => Ev.dB (ev_varV rfl)⟩⟩)))))
    · exact ⟨p, rfl, [], List.Perm.of_eq (by rw [worths_yn hc]; rfl)⟩
  · refine q_when (et_test (ev_eqD (Ev.dLS (ev_var rfl h_words)) (Ev.dLS (ws := ["none"]) (EvO.keep (eo_lst (ea_cons ev_c ea_nil)))) (shaped_strs hws) shaped_none)) (fun hc2 => ?_) (fun hc2 => ?_)
    · refine s_retO (eo_lst (ea_cons (Ev.dN (K := K) ev_c) ea_nil)) fun p G1 e1 => ?_
      exact ⟨p, rfl, [], List.Perm.of_eq (by rw [worths_none hc hc2]; rfl)⟩
    · refine q_set (EvO.keep (eo_lcAW (F := pS) ws (fun x => pD K (numD x)) (iw_list (ev_var rfl h_words)) (by omega) (fun j x G1 e1 hx => ag_nameV ⟨rfl, fun Dl c => ec_P1 (ea_cons (ev_varV rfl) ea_nil) (hws x (List.mem_of_getElem? hx)).1⟩))) fun v3 G1 e1 h_numbers => ?_
      have en : (ws.map fun x => pD K (numD x)) = (ws.map numD).map (pD K) := by rw [List.map_map]; rfl
      rw [en] at h_numbers
      refine q_when (et_test (ev_eq (ev_varV rfl) ev_c rfl)) (fun hc3 => ?_) (fun hc3 => ?_)
      · refine s_retO (eo_lst (ea_cons (Ev.dT (K := K) (ev_tupleL (ev_var rfl h_numbers))) ea_nil)) fun p G2 e2 => ?_
        exact ⟨p, rfl, [], List.Perm.of_eq (by rw [worths_deal hc hc2 hc3]; rfl)⟩
      · refine s_retO (eo_slL (ev_var rfl h_numbers) eb_none (eb_some (ev_intB (ev_eq (ev_lenL (ev_var rfl h_numbers)) ev_c rfl)))) fun p G2 e2 => ?_
        exact ⟨p, rfl, [], List.Perm.of_eq (by rw [worths_else hc hc2 hc3, cut_one, List.length_map, List.length_map]; rfl)⟩
theorem sc_rule_by : FnScope ["text", "words", "first", "last", "worth", "rule"] ["text"] (defScope (top 28)) := ⟨rfl, rfl, rfl, by decide +kernel, rfl, by decide +kernel, by decide +kernel⟩
theorem ok_rule_by (T : Tx K mg) (c_number_by : C8.Cal P w K mg base 1 "number_by" (spNum K) []) (c_worths_by : C8.Cal P w K mg base 2 "worths_by" (spWorths K) []) (c_rule_of : C8.Cal P w K mg base 5 "rule_of" (spRuleOf K) []) (c_rule_text : C8.Cal P w K mg base 2 "rule_text" (spRText K) []) (c_told : ∀ w0 ∈ WORDS, C8.Met P w K mg base 2 (cAd K w0) "told" (spTold K) []) {f : Addr} {fd : FuncData} (F : FnP K "rule_by" "rule_by" (top 28) f fd) : FnOk P w K mg base CX0 6 f fd ["text"] (spRuleBy K) := by
  refine F.ok sc_rule_by (lenP1 fun _ => rfl) (fun cdv A outer s H vs Q E hr h => ?_)
  skip
  refine bodyP1 (pss_cons (ps_set (i := 1) sc_rule_by.nd rfl (by first | exact Or.inl rfl | exact Or.inr rfl) (pe_split (pv 0) pe_str))
        (pss_cons (ps_if (pt_cmpR op_lt (pe_callB call_len (by rfl) T.n_len (by decide +kernel) (pa_cons (pv 1) pa_nil)) pe_int (nomark _)) (pss_one (ps_ret pe_non)) pss_nil)
        (pss_cons (ps_set (i := 2) sc_rule_by.nd rfl (by first | exact Or.inl rfl | exact Or.inr rfl) (C8.pe_c c_number_by hr (by decide) (by rfl) (pa_cons (pe_ix ix_list (pv 1) pe_int (fun _ _ => rfl)) pa_nil)))
        (pss_cons (ps_set (i := 3) sc_rule_by.nd rfl (by first | exact Or.inl rfl | exact Or.inr rfl) (C8.pe_c c_number_by hr (by decide) (by rfl) (pa_cons (pe_ix ix_list (pv 1) pe_int (fun _ _ => rfl)) pa_nil)))
        (pss_cons (ps_for PassesOwn.never rfl (pi_list (C8.pe_c c_worths_by hr (by decide) (by rfl) (pa_cons (pe_ix ix_list (pv 1) pe_int (fun _ _ => rfl)) (pa_cons (pe_slice sl_list (pv 1) (po_some pe_int) po_none) pa_nil)))) (pg_name (i := 4) sc_rule_by.nd rfl (by first | exact Or.inl rfl | exact Or.inr rfl))
        (pss_cons (ps_set (i := 5) sc_rule_by.nd rfl (by first | exact Or.inl rfl | exact Or.inr rfl) (C8.pe_c c_rule_of hr (by decide) (by rfl) (pa_cons (pe_tup (pa_cons (pe_ix ix_list (pv 1) pe_int (fun _ _ => rfl)) (pa_cons (pv 2) (pa_cons (pv 3) (pa_cons (pv 4) pa_nil))))) pa_nil)))
        (pss_one (ps_if (PW.pt (pw_and (pt_cmpR op_notN (pv 5) pe_non (nomark _)) (pw_and1 (pt_cmpR op_eq (C8.pe_c c_rule_text hr (by decide) (by rfl) (pa_cons (pe_mtV0 (cA := cAd K) (S := fun w => w ∈ WORDS) (sp := fun _ => spTold K) c_told hr (by decide) (pv 5)) pa_nil)) (pv 0) (nomark _))))) (pss_one (ps_ret (pe_mtV0 (cA := cAd K) (S := fun w => w ∈ WORDS) (sp := fun _ => spTold K) c_told hr (by decide) (pv 5)))) pss_nil))))
        (pss_one (ps_ret pe_non))))))) ?_ h
  rintro t G M vs hp ha
  obtain ⟨v1, rfl, h1⟩ := als1 ha
  cases (show v1 = _ from h1)
  have hsp := split_ok hp
  refine q_set (EvO.keep (eo_split (ev_varV rfl) ev_c (by decide) (Nat.le_trans (Nat.add_le_add_right hp.1 2) (by decide)))) fun v1 G1 e1 h_words => ?_
  refine q_when (et_test (ev_I0 (ev_lenL (ev_var rfl h_words)) ev_c)) (fun hc => ?_) (fun hc => ?_)
  · refine s_ret (Ev.dN (K := K) ev_c) fun v G2 e2 hv => ?_
    exact ⟨⟨[], List.Perm.refl _⟩, by rw [by_short hc]; exact hv⟩
  obtain ⟨w, f, l, z, ws, e⟩ := by_long hc
  rw [show Txt.split t (Str.ofString " ") = w :: f :: l :: z :: ws from e] at h_words
  rw [e] at hsp
  have hw0 : okS w := hsp.2 w (by simp)
  have hf0 : okS f := hsp.2 f (by simp)
  have hl0 : okS l := hsp.2 l (by simp)
  have hws : ∀ x ∈ z :: ws, okS x := fun x hx => hsp.2 x (by simp only [List.mem_cons] at hx ⊢; exact .inr (.inr (.inr hx)))
  have hwl : (z :: ws).length ≤ 1000 := by have := hsp.1; simp only [List.length_cons] at this ⊢; omega
  refine q_set (ec_P1 (ea_cons (ev_ixL (ev_var rfl h_words) ev_c (at_1 _ _)) ea_nil) hf0.1) fun v2 G2 e2 h_first => ?_
  replace h_words := Pr.m _ e2 h_words
  refine q_set (ec_P1 (ea_cons (ev_ixL (ev_var rfl h_words) ev_c (at_2 _ _)) ea_nil) hl0.1) fun v3 G3 e3 h_last => ?_
  replace h_words := Pr.m _ e3 h_words
  replace h_first := Pr.m _ e3 h_first
  refine q_forW (fun j σ' G' M' => M' = M ∧ (∃ x y, σ' = [some (V.str t), some v1, some v2, some v3, x, y]) ∧ ((worthsBy w (z :: ws)).take j).findSome? (ruleTry t w (numD f) (numD l)) = none)
    (iw_list (EvO.keep (ec_N2 (a := w) (b := z :: ws) (ea_cons (ev_ixL (ev_var rfl h_words) ev_c (at_0 _ _)) (ea_cons (EvO.keep (EvO.is (eo_slL (ev_var rfl h_words) (eb_some ev_c) eb_none) (cut_three _ _ _ _))) ea_nil)) ⟨hwl, hws⟩))) (fun G4 e4 => ⟨rfl, ⟨none, none, rfl⟩, rfl⟩) ?_ ?_
  · rintro j p σ' Gi G' M' e4 e5 hpj ⟨rfl, ⟨x, y, rfl⟩, hn⟩
    obtain ⟨d, hd, rfl⟩ := map_at hpj
    have e6 := e4.trans e5
    replace h_words := Pr.m _ e6 h_words
    replace h_first := Pr.m _ e6 h_first
    replace h_last := Pr.m _ e6 h_last
    refine ag_name fun v4 h_worth => ?_
    refine q_set (ec_P1 (ea_cons (ev_tupD (ds := [.str w, numD f, numD l, d]) (ea_cons (Ev.dS (ev_ixL (ev_var rfl h_words) ev_c (at_0 _ _))) (ea_cons (ev_var rfl h_first) (ea_cons (ev_var rfl h_last) (ea_cons (ev_var rfl h_worth) ea_nil))))) ea_nil) trivial) fun v5 G5 e7 h_rule => ?_
    cases hr0 : ruleOf (.tuple [.str w, numD f, numD l, d]) with
    | none =>
      rw [hr0] at h_rule
      refine s_when (et_and (b := false) (et_test (ev_notNb (b := false) (ev_var rfl h_rule) (fun v G6 h => by cases (show v = .non from h); rfl))) (fun hb => by cases hb)) (fun hb => by cases hb) (fun hb G6 e8 => ⟨rfl, ⟨_, _, rfl⟩, try_none hd hn (by unfold ruleTry; rw [hr0])⟩)
    | some r =>
      rw [hr0] at h_rule
      obtain ⟨hrw, hrk⟩ := ruleOf_ok hr0
      have hto : ∀ G7 N, Same G5 G7 → Ev (tMethV (cAd K) (fun w => w ∈ WORDS) "told" (fun _ => spTold K) C8.E0 (tVar 5) tNil) [some (V.str t), some v1, some v2, some v3, some v4, some v5] G7 N N (pD K r.enc) := fun G7 N e => ev_mtV (c0 := r.w) (ev_var rfl (Pr.m _ e h_rule)) (rl_inst (by decide +kernel)) hrw ea_nil (fun v vs G' H' e A hv hvs Q k => ⟨r, G', _, hrw, ⟨hv, hvs⟩, A, k⟩)
      refine s_when (et_and (et_test (ev_notNb (b := true) (ev_var rfl h_rule) (fun v G6 h => rl_some h))) (fun _ => et_test (ev_eq (ec_P1 (ea_cons (hto _ _ (Same.refl _)) ea_nil) hrk) (ev_varV rfl) rfl))) (fun hb => ?_) (fun hb G6 e8 => ⟨rfl, ⟨_, _, rfl⟩, try_none hd hn ?_⟩)
      · refine s_ret (hto _ _ (Same.refl _)) fun v G6 e8 hv => ?_
        exact ⟨⟨[], List.Perm.refl _⟩, by rw [by_found e hd hn (r := r) (by unfold ruleTry; rw [hr0]; simpa using hb)]; exact hv⟩
      · unfold ruleTry; rw [hr0]; simpa using hb
  · rintro σ' G' M' e4 ⟨rfl, ⟨x, y, rfl⟩, hn⟩
    refine s_ret (Ev.dN (K := K) ev_c) fun v G5 e5 hv => ?_
    rw [List.length_map, List.take_length] at hn
    exact ⟨⟨[], List.Perm.refl _⟩, by rw [by_none e hn]; exact hv⟩
theorem sc_law_begin : FnScope ["_law_cell"] ["_law_cell"] (defScope (top 31)) := ⟨rfl, rfl, rfl, by decide +kernel, rfl, by decide +kernel, by decide +kernel⟩
theorem ok_law_begin (T : Tx K mg)  {f : Addr} {fd : FuncData} (F : FnP K "_law_begin" "_law_begin" (top 31) f fd) : FnOk P w K mg base CX0 1 f fd ["_law_cell"] spBegin := by
  refine F.ok sc_law_begin (lenN1 fun _ => rfl) (fun cdv A outer s H vs Q E hr h => ?_)
  skip
  refine bodyN1 (pss_cons (ps_if (pt_cmpR op_ge (pv 0) (pe_op op_pow pe_int pe_int) (nomark _)) (pss_one (ps_ret (pe_lst (pa_cons (pe_op op_sub (pv 0) (pe_op op_pow pe_int pe_int)) (pa_cons pe_int pa_nil))))) pss_nil)
        (pss_one (ps_ret (pe_lst (pa_cons pe_int (pa_cons (pe_op op_add (pe_op op_mod (pv 0) pe_int) pe_int) pa_nil)))))) ?_ h
  rintro c G M vs hp ha
  obtain ⟨v1, rfl, h1⟩ := als1 ha
  cases (show v1 = _ from h1)
  refine q_when (et_test (ev_I0 (ev_varV rfl) (ev_powC (r := 1000000000000000000)))) (fun hc1 => ?_) (fun hc1 => ?_)
  · skip
    refine s_retO (eo_lst (ea_cons (ev_I0 (ev_varV rfl) (ev_powC (r := 1000000000000000000))) (ea_cons ev_c ea_nil))) fun v5 G6 e7 => ?_
    have h0 : c ≥ 1000000000000000000 := of_decide_eq_true hc1
    refine ⟨_, rfl, [], List.Perm.of_eq ?_⟩
    unfold beginR
    rw [if_pos h0]
    rfl
  · skip
    refine s_retO (eo_lst (ea_cons ev_c (ea_cons (ev_I0 (ev_I (ev_varV rfl) ev_c (show (0 : Int) < _ by first | decide | omega)) ev_c) ea_nil))) fun v8 G9 e10 => ?_
    have h0 : ¬ c ≥ 1000000000000000000 := of_decide_eq_false hc1
    refine ⟨_, rfl, [], List.Perm.of_eq ?_⟩
    unfold beginR
    rw [if_neg h0]
    rfl
theorem sc_law_take : FnScope ["_law_row", "_law_base", "_law_found", "_law_number_here"] ["_law_row", "_law_base"] (defScope (top 32)) := ⟨rfl, rfl, rfl, by decide +kernel, rfl, by decide +kernel, by decide +kernel⟩
theorem ok_law_take (T : Tx K mg)  {f : Addr} {fd : FuncData} (F : FnP K "_law_take" "_law_take" (top 32) f fd) : FnOk P w K mg base CX0 1 f fd ["_law_row", "_law_base"] spTake := by
  refine F.ok sc_law_take (lenM3 fun _ _ _ => rfl) (fun cdv A outer s H vs Q E hr h => ?_)
  skip
  refine bodyM3 (pss_cons (ps_if (pt_cmpR op_gt (pe_ix ix_list (pv 0) pe_int (fun _ _ => rfl)) pe_int (nomark _)) (pss_cons (ps_set (i := 2) sc_law_take.nd rfl (by first | exact Or.inl rfl | exact Or.inr rfl) (pe_op op_mod (pe_ix ix_list (pv 0) pe_int (fun _ _ => rfl)) (pv 1)))
        (pss_cons (ps_asg (pe_op op_fdiv (pe_ix ix_list (pv 0) pe_int (fun _ _ => rfl)) (pv 1)) (pg_sub (pv 0) pe_int set_list))
        (pss_one (ps_ret (pv 2))))) pss_nil)
        (pss_cons (ps_asg (pe_op op_mod (pe_op op_add (pe_op op_mul (pe_ix ix_list (pv 0) pe_int (fun _ _ => rfl)) pe_int) pe_int) pe_int) (pg_sub (pv 0) pe_int set_list))
        (pss_cons (ps_set (i := 3) sc_law_take.nd rfl (by first | exact Or.inl rfl | exact Or.inr rfl) (pe_op op_mod (pe_op op_add (pe_op op_add (pe_op op_mul (pe_ix ix_list (pv 0) pe_int (fun _ _ => rfl)) (pe_ix ix_list (pv 0) pe_int (fun _ _ => rfl))) (pe_op op_mul pe_int (pe_ix ix_list (pv 0) pe_int (fun _ _ => rfl)))) pe_int) pe_int))
        (pss_one (ps_ret (pe_op op_mod (pe_op op_fdiv (pv 3) pe_int) (pv 1))))))) ?_ h
  rintro p r b G M vs hp ha
  obtain ⟨v1, v2, rfl, h1, h2⟩ := als2 ha
  cases (show v1 = _ from h1)
  cases (show v2 = _ from h2)
  obtain ⟨hb, hb2⟩ := hp
  have hm : (p, CD.lst [pI r.a, pI r.b]) ∈ ((p, cRow r) :: M) := List.mem_cons_self
  refine q_when (et_test (ev_I0 (ev_ixM (ev_varV rfl) ev_c hm rfl) ev_c)) (fun hc1 => ?_) (fun hc1 => ?_)
  · skip
    refine q_setV (ev_I (ev_ixM (ev_varV rfl) ev_c hm rfl) (ev_varV rfl) (show (0 : Int) < _ by first | decide | omega)) ?_
    refine q_put (ev_I (ev_ixM (ev_varV rfl) ev_c hm rfl) (ev_varV rfl) (show CDiv _ _ from ⟨by first | decide | omega, by first | decide | omega⟩)) (ev_varV rfl) ev_c (n := _) rfl fun G7 e8 => ?_
    refine s_ret (ev_varV rfl) fun v9 G10 e11 hv => ?_
    have h0 : r.a > 0 := of_decide_eq_true hc1
    refine ⟨⟨[], List.Perm.of_eq ?_⟩, ?_⟩
    · show (p, CD.lst [_, _]) :: M = (p, cRow (takeR r b)) :: M
      rw [takeR, if_pos h0]
      rfl
    · show (pI (take r b)).h _ _
      rw [take, if_pos h0]
      exact hv
  · skip
    refine q_put (ev_I (ev_I0 (ev_I (ev_ixM (ev_varV rfl) ev_c List.mem_cons_self rfl) ev_c (.inr ⟨by decide, by decide⟩)) ev_c) ev_c (show (0 : Int) < _ by first | decide | omega)) (ev_varV rfl) ev_c (n := _) rfl fun G12 e13 => ?_
    refine q_setV (ev_I (ev_I0 (ev_I0 (ev_I (ev_ixM (ev_varV rfl) ev_c List.mem_cons_self rfl) (ev_ixM (ev_varV rfl) ev_c List.mem_cons_self rfl) (.inl (by constructor <;> omega))) (ev_I ev_c (ev_ixM (ev_varV rfl) ev_c List.mem_cons_self rfl) (.inl ⟨by decide, by decide⟩))) ev_c) ev_c (show (0 : Int) < _ by first | decide | omega)) ?_
    refine s_ret (ev_I (ev_I (ev_varV rfl) ev_c (show CDiv _ _ from ⟨by first | decide | omega, by first | decide | omega⟩)) (ev_varV rfl) (show (0 : Int) < _ by first | decide | omega)) fun v14 G15 e16 hv => ?_
    have h0 : ¬ r.a > 0 := of_decide_eq_false hc1
    refine ⟨⟨[], List.Perm.of_eq ?_⟩, ?_⟩
    · show (p, CD.lst [_, _]) :: M = (p, cRow (takeR r b)) :: M
      rw [takeR, if_neg h0]
      rfl
    · show (pI (take r b)).h _ _
      rw [take, if_neg h0]
      exact hv
theorem sc_law_coins : FnScope ["_law_row", "_law_few", "_law_many", "_law_great"] ["_law_row"] (defScope (top 33)) := ⟨rfl, rfl, rfl, by decide +kernel, rfl, by decide +kernel, by decide +kernel⟩
theorem ok_law_coins (T : Tx K mg) (c_law_take : C8.Cal P w K mg base 1 "_law_take" spTake []) {f : Addr} {fd : FuncData} (F : FnP K "_law_coins" "_law_coins" (top 33) f fd) : FnOk P w K mg base CX0 2 f fd ["_law_row"] spCoins := by
  refine F.ok sc_law_coins (lenM2 fun _ _ => rfl) (fun cdv A outer s H vs Q E hr h => ?_)
  skip
  refine bodyM2 (pss_cons (ps_set (i := 1) sc_law_coins.nd rfl (by first | exact Or.inl rfl | exact Or.inr rfl) (C8.pe_c c_law_take hr (by decide) (by rfl) (pa_cons (pv 0) (pa_cons pe_int pa_nil))))
        (pss_cons (ps_set (i := 2) sc_law_coins.nd rfl (by first | exact Or.inl rfl | exact Or.inr rfl) (pe_op op_mul pe_int (C8.pe_c c_law_take hr (by decide) (by rfl) (pa_cons (pv 0) (pa_cons pe_int pa_nil)))))
        (pss_cons (ps_set (i := 3) sc_law_coins.nd rfl (by first | exact Or.inl rfl | exact Or.inr rfl) (pe_op op_add (pe_op op_mul (C8.pe_c c_law_take hr (by decide) (by rfl) (pa_cons (pv 0) (pa_cons (pe_op op_pow pe_int pe_int) pa_nil))) (pe_op op_pow pe_int pe_int)) (C8.pe_c c_law_take hr (by decide) (by rfl) (pa_cons (pv 0) (pa_cons (pe_op op_pow pe_int pe_int) pa_nil)))))
        (pss_one (ps_ret (pe_ix ix_list (pe_lst (pa_cons (pv 1) (pa_cons (pv 2) (pa_cons (pe_op op_add (pv 1) (pe_op op_mul pe_int (pv 2))) (pa_cons (pv 3) (pa_cons (pe_op op_pow pe_int pe_int) pa_nil)))))) (pe_op op_fdiv (C8.pe_c c_law_take hr (by decide) (by rfl) (pa_cons (pv 0) (pa_cons pe_int pa_nil))) pe_int) (fun _ _ => rfl))))))) ?_ h
  rintro p r G M vs hp ha
  obtain ⟨v1, rfl, h1⟩ := als1 ha
  cases (show v1 = _ from h1)
  refine q_setV (ec_M3 (ea_cons (ev_varV rfl) (ea_cons ev_c ea_nil)) ⟨by decide, by decide⟩) ?_
  refine q_setV (ev_I ev_c (ec_M3 (ea_cons (ev_varV rfl) (ea_cons ev_c ea_nil)) ⟨by decide, by decide⟩) (.inl ⟨by decide, by decide⟩)) ?_
  refine q_setV (ev_I0 (ev_I (ec_M3 (ea_cons (ev_varV rfl) (ea_cons (ev_powC (r := 1000000)) ea_nil)) ⟨by decide, by decide⟩) (ev_powC (r := 1000000)) (.inr ⟨by decide, by decide⟩)) (ec_M3 (ea_cons (ev_varV rfl) (ea_cons (ev_powC (r := 1000000)) ea_nil)) ⟨by decide, by decide⟩)) ?_
  refine s_ret (ev_ixOI [_, _, _, _, _] (eo_lst (ea_cons (ev_varV rfl) (ea_cons (ev_varV rfl) (ea_cons (ev_I0 (ev_varV rfl) (ev_I ev_c (ev_varV rfl) (.inl ⟨by decide, by decide⟩))) (ea_cons (ev_varV rfl) (ea_cons (ev_powC (r := 1000000000000)) ea_nil)))))) (ev_I (ec_M3 (ea_cons (ev_varV rfl) (ea_cons ev_c ea_nil)) ⟨by decide, by decide⟩) ev_c (show CDiv _ _ from ⟨by first | decide | omega, by first | decide | omega⟩)) 5 (take_dlo _ (by decide)) (take_dhi _ (by decide) (by decide))) fun v1 G2 e3 hv => ?_
  exact ⟨⟨[], List.Perm.refl _⟩, hv⟩
theorem sc_law_worth : FnScope ["_law_row", "_law_word", "_law_many", "_law_free", "_law_coins_here"] ["_law_row", "_law_word"] (defScope (top 34)) := ⟨rfl, rfl, rfl, by decide +kernel, rfl, by decide +kernel, by decide +kernel⟩
theorem ok_law_worth (T : Tx K mg) (c_law_take : C8.Cal P w K mg base 1 "_law_take" spTake []) (c_law_coins : C8.Cal P w K mg base 2 "_law_coins" spCoins []) {f : Addr} {fd : FuncData} (F : FnP K "_law_worth" "_law_worth" (top 34) f fd) : FnOk P w K mg base CX0 3 f fd ["_law_row", "_law_word"] (spWorth K) := by
  refine F.ok sc_law_worth (lenM3 fun _ _ _ => rfl) (fun cdv A outer s H vs Q E hr h => ?_)
  skip
  refine bodyM3 (pss_cons (ps_if (pt_cmpR op_in_seq (pv 1) (pe_tup (pa_cons pe_str (pa_cons pe_str pa_nil))) (by with_unfolding_all rfl)) (pss_one (ps_ret (pe_cmpR op_eq (C8.pe_c c_law_take hr (by decide) (by rfl) (pa_cons (pv 0) (pa_cons pe_int pa_nil))) pe_int (nomark _)))) pss_nil)
        (pss_cons (ps_if (pt_cmpR op_in_seq (pv 1) (pe_tup (pa_cons pe_str (pa_cons pe_str pa_nil))) (by with_unfolding_all rfl)) (pss_one (ps_ret (pe_op op_add pe_int (C8.pe_c c_law_take hr (by decide) (by rfl) (pa_cons (pv 0) (pa_cons (pe_ix ix_list (pe_lst (pa_cons pe_int (pa_cons pe_int pa_nil))) (C8.pe_c c_law_take hr (by decide) (by rfl) (pa_cons (pv 0) (pa_cons pe_int pa_nil))) (fun _ _ => rfl)) pa_nil)))))) pss_nil)
        (pss_cons (ps_if (pt_cmpR op_eq (pv 1) pe_str (nomark _)) (pss_cons (ps_set (i := 2) sc_law_worth.nd rfl (by first | exact Or.inl rfl | exact Or.inr rfl) (pe_op op_add pe_int (C8.pe_c c_law_take hr (by decide) (by rfl) (pa_cons (pv 0) (pa_cons (pe_ix ix_list (pe_lst (pa_cons pe_int (pa_cons pe_int pa_nil))) (C8.pe_c c_law_take hr (by decide) (by rfl) (pa_cons (pv 0) (pa_cons pe_int pa_nil))) (fun _ _ => rfl)) pa_nil)))))
        (pss_cons (ps_set (i := 3) sc_law_worth.nd rfl (by first | exact Or.inl rfl | exact Or.inr rfl) (pe_op op_add pe_int (C8.pe_c c_law_take hr (by decide) (by rfl) (pa_cons (pv 0) (pa_cons (pe_op op_sub (pv 2) pe_int) pa_nil)))))
        (pss_one (ps_ret (pe_ix ix_list (pe_lst (pa_cons (pe_tup (pa_cons (pv 2) (pa_cons (pv 3) pa_nil))) (pa_cons (pe_tup (pa_cons (pv 2) (pa_cons (pv 3) pa_nil))) (pa_cons pe_non pa_nil)))) (C8.pe_c c_law_take hr (by decide) (by rfl) (pa_cons (pv 0) (pa_cons pe_int pa_nil))) (fun _ _ => rfl)))))) pss_nil)
        (pss_cons (ps_set (i := 4) sc_law_worth.nd rfl (by first | exact Or.inl rfl | exact Or.inr rfl) (C8.pe_c c_law_coins hr (by decide) (by rfl) (pa_cons (pv 0) pa_nil)))
        (pss_cons (ps_if (PW.pt (pw_and (pt_cmpR op_eq (pv 1) pe_str (nomark _)) (pw_and1 (pt_cmpR op_eq (C8.pe_c c_law_take hr (by decide) (by rfl) (pa_cons (pv 0) (pa_cons pe_int pa_nil))) pe_int (nomark _))))) (pss_one (ps_ret pe_non)) pss_nil)
        (pss_one (ps_ret (pv 4)))))))) ?_ h
  rintro p r w G M vs hp ha
  obtain ⟨v1, v2, rfl, h1, h2⟩ := als2 ha
  cases (show v1 = _ from h1)
  cases (show v2 = _ from h2)
  refine q_when (et_test (ev_inT (vs := [_, _]) (ev_varV rfl) (ev_tup (ea_cons ev_c (ea_cons ev_c ea_nil))) rfl rfl)) (fun hc1 => ?_) (fun hc1 => ?_)
  · skip
    refine s_ret (Ev.dB (K := K) (ev_eq (ec_M3 (ea_cons (ev_varV rfl) (ea_cons ev_c ea_nil)) ⟨by decide, by decide⟩) ev_c rfl)) fun v5 G6 e7 hv => ?_
    refine ⟨⟨[], List.Perm.of_eq ?_⟩, ?_⟩
    · simp only [worthV, worthR, hc1, ↓reduceIte, Bool.false_eq_true]
      first | done | rfl
    · simp only [worthV, worthR, hc1, ↓reduceIte, Bool.false_eq_true]
      exact hv
  · skip
    refine q_when (et_test (ev_inT (vs := [_, _]) (ev_varV rfl) (ev_tup (ea_cons ev_c (ea_cons ev_c ea_nil))) rfl rfl)) (fun hc8 => ?_) (fun hc8 => ?_)
    · skip
      refine s_ret (Ev.dI (K := K) (ev_I0 ev_c (ec_M3 (ea_cons (ev_varV rfl) (ea_cons (ev_ixOI [_, _] (eo_lst (ea_cons ev_c (ea_cons ev_c ea_nil))) (ec_M3 (ea_cons (ev_varV rfl) (ea_cons ev_c ea_nil)) ⟨by decide, by decide⟩) 2 (take_lo _ (by decide)) (take_hi _ (by decide))) ea_nil)) ⟨two_lo (by decide) (by decide), two_hi (by decide) (by decide)⟩))) fun v12 G13 e14 hv => ?_
      refine ⟨⟨[], List.Perm.of_eq ?_⟩, ?_⟩
      · simp only [worthV, worthR, hc1, hc8, ↓reduceIte, Bool.false_eq_true]
        first | done | rfl
      · simp only [worthV, worthR, hc1, hc8, ↓reduceIte, Bool.false_eq_true]
        exact hv
    · skip
      refine q_when (et_test (ev_eq (ev_varV rfl) ev_c rfl)) (fun hc15 => ?_) (fun hc15 => ?_)
      · skip
        refine q_setV (ev_I0 ev_c (ec_M3 (ea_cons (ev_varV rfl) (ea_cons (ev_ixOI [_, _] (eo_lst (ea_cons ev_c (ea_cons ev_c ea_nil))) (ec_M3 (ea_cons (ev_varV rfl) (ea_cons ev_c ea_nil)) ⟨by decide, by decide⟩) 2 (take_lo _ (by decide)) (take_hi _ (by decide))) ea_nil)) ⟨two_lo (by decide) (by decide), two_hi (by decide) (by decide)⟩)) ?_
        refine q_setV (ev_I0 ev_c (ec_M3 (ea_cons (ev_varV rfl) (ea_cons (ev_I0 (ev_varV rfl) ev_c) ea_nil)) ⟨many_lo1 _, many_hi1 _⟩)) ?_
        refine s_ret (ev_ixOf (F := pD K) [_, _, _] .none (eo_lst (ea_cons (ev_tupD (ds := [_, _]) (ea_cons (Ev.dI (K := K) (ev_varV rfl)) (ea_cons (Ev.dI (K := K) (ev_varV rfl)) ea_nil))) (ea_cons (ev_tupD (ds := [_, _]) (ea_cons (Ev.dI (K := K) (ev_varV rfl)) (ea_cons (Ev.dI (K := K) (ev_varV rfl)) ea_nil))) (ea_cons (Ev.dN (K := K) ev_c) ea_nil)))) (ec_M3 (ea_cons (ev_varV rfl) (ea_cons ev_c ea_nil)) ⟨by decide, by decide⟩) 3 (take_lo _ (by decide)) (take_hi _ (by decide))) fun v19 G20 e21 hv => ?_
        refine ⟨⟨[], List.Perm.of_eq ?_⟩, ?_⟩
        · simp only [worthV, worthR, hc1, hc8, hc15, ↓reduceIte, Bool.false_eq_true]
          first | done | rfl
        · simp only [worthV, worthR, hc1, hc8, hc15, ↓reduceIte, Bool.false_eq_true]
          exact hv
      · skip
        refine q_setV (ec_M2 (ea_cons (ev_varV rfl) ea_nil) trivial) ?_
        refine q_whenAM (et_test (ev_eq (ev_varV rfl) ev_c rfl)) (fun hc27 => (et_test (ev_eq (ec_M3 (ea_cons (ev_varV rfl) (ea_cons ev_c ea_nil)) ⟨by decide, by decide⟩) ev_c rfl))) (fun hc27 hc23 => ?_) (fun hc27 hc23 => ?_) (fun hc27 => ?_)
        · skip
          refine s_ret (Ev.dN (K := K) ev_c) fun v28 G29 e30 hv => ?_
          refine ⟨⟨[], List.Perm.of_eq ?_⟩, ?_⟩
          · simp only [worthV, worthR, hc1, hc8, hc15, hc27, hc23, ↓reduceIte, Bool.false_eq_true]
            first | done | rfl
          · simp only [worthV, worthR, hc1, hc8, hc15, hc27, hc23, ↓reduceIte, Bool.false_eq_true]
            exact hv
        · skip
          refine s_ret (Ev.dI (K := K) (ev_varV rfl)) fun v31 G32 e33 hv => ?_
          refine ⟨⟨[], List.Perm.of_eq ?_⟩, ?_⟩
          · simp only [worthV, worthR, hc1, hc8, hc15, hc27, hc23, ↓reduceIte, Bool.false_eq_true]
            first | done | rfl
          · simp only [worthV, worthR, hc1, hc8, hc15, hc27, hc23, ↓reduceIte, Bool.false_eq_true]
            exact hv
        · skip
          refine s_ret (Ev.dI (K := K) (ev_varV rfl)) fun v34 G35 e36 hv => ?_
          refine ⟨⟨[], List.Perm.of_eq ?_⟩, ?_⟩
          · simp only [worthV, worthR, hc1, hc8, hc15, hc27, ↓reduceIte, Bool.false_eq_true]
            first | done | rfl
          · simp only [worthV, worthR, hc1, hc8, hc15, hc27, ↓reduceIte, Bool.false_eq_true]
            exact hv
theorem sc_law_rule : FnScope ["_law_row", "_law_day", "_law_word", "_law_ahead", "_law_first", "_law_last"] ["_law_row", "_law_day"] (defScope (top 35)) := ⟨rfl, rfl, rfl, by decide +kernel, rfl, by decide +kernel, by decide +kernel⟩
theorem ok_law_rule (T : Tx K mg) (c_law_take : C8.Cal P w K mg base 1 "_law_take" spTake []) (c_law_worth : C8.Cal P w K mg base 3 "_law_worth" (spWorth K) []) {f : Addr} {fd : FuncData} (F : FnP K "_law_rule" "_law_rule" (top 35) f fd) : FnOk P w K mg base CX0 4 f fd ["_law_row", "_law_day"] (spRule K) := by
  refine F.ok sc_law_rule (lenM3 fun _ _ _ => rfl) (fun cdv A outer s H vs Q E hr h => ?_)
  skip
  refine bodyM3 (pss_cons (ps_set (i := 2) sc_law_rule.nd rfl (by first | exact Or.inl rfl | exact Or.inr rfl) (pe_ix ix_list (pe_lst (pa_cons pe_str (pa_cons pe_str (pa_cons pe_str (pa_cons pe_str (pa_cons pe_str (pa_cons pe_str (pa_cons pe_str (pa_cons pe_str (pa_cons pe_str pa_nil)))))))))) (C8.pe_c c_law_take hr (by decide) (by rfl) (pa_cons (pv 0) (pa_cons pe_int pa_nil))) (fun _ _ => rfl)))
        (pss_cons (ps_set (i := 3) sc_law_rule.nd rfl (by first | exact Or.inl rfl | exact Or.inr rfl) (pe_ix ix_list (pe_lst (pa_cons (pe_op op_sub (C8.pe_c c_law_take hr (by decide) (by rfl) (pa_cons (pv 0) (pa_cons pe_int pa_nil))) pe_int) (pa_cons (C8.pe_c c_law_take hr (by decide) (by rfl) (pa_cons (pv 0) (pa_cons pe_int pa_nil))) (pa_cons (pe_un un_neg (pv 1)) (pa_cons pe_int pa_nil))))) (C8.pe_c c_law_take hr (by decide) (by rfl) (pa_cons (pv 0) (pa_cons pe_int pa_nil))) (fun _ _ => rfl)))
        (pss_cons (ps_set (i := 4) sc_law_rule.nd rfl (by first | exact Or.inl rfl | exact Or.inr rfl) (pe_callB (call_min2 rfl) (by rfl) T.n_min (by decide +kernel) (pa_cons (pe_op op_pow pe_int pe_int) (pa_cons (pe_callB (call_max2 rfl) (by rfl) T.n_max (by decide +kernel) (pa_cons pe_int (pa_cons (pe_op op_add (pv 1) (pv 3)) pa_nil))) pa_nil))))
        (pss_cons (ps_set (i := 5) sc_law_rule.nd rfl (by first | exact Or.inl rfl | exact Or.inr rfl) (pe_op op_add (pv 4) (pe_ix ix_list (pe_lst (pa_cons pe_int (pa_cons (C8.pe_c c_law_take hr (by decide) (by rfl) (pa_cons (pv 0) (pa_cons pe_int pa_nil))) (pa_cons (C8.pe_c c_law_take hr (by decide) (by rfl) (pa_cons (pv 0) (pa_cons pe_int pa_nil))) (pa_cons pe_int (pa_cons (pe_op op_pow pe_int pe_int) pa_nil)))))) (C8.pe_c c_law_take hr (by decide) (by rfl) (pa_cons (pv 0) (pa_cons pe_int pa_nil))) (fun _ _ => rfl))))
        (pss_one (ps_ret (pe_tup (pa_cons (pv 2) (pa_cons (pv 4) (pa_cons (pe_callB (call_min2 rfl) (by rfl) T.n_min (by decide +kernel) (pa_cons (pe_op op_pow pe_int pe_int) (pa_cons (pv 5) pa_nil))) (pa_cons (C8.pe_c c_law_worth hr (by decide) (by rfl) (pa_cons (pv 0) (pa_cons (pv 2) pa_nil))) pa_nil))))))))))) ?_ h
  rintro p r d G M vs hp ha
  obtain ⟨v1, v2, rfl, h1, h2⟩ := als2 ha
  cases (show v1 = _ from h1)
  cases (show v2 = _ from h2)
  refine q_setV (ev_ixOS [_, _, _, _, _, _, _, _, _] (eo_lst (ea_cons ev_c (ea_cons ev_c (ea_cons ev_c (ea_cons ev_c (ea_cons ev_c (ea_cons ev_c (ea_cons ev_c (ea_cons ev_c (ea_cons ev_c ea_nil)))))))))) (ec_M3 (ea_cons (ev_varV rfl) (ea_cons ev_c ea_nil)) ⟨by decide, by decide⟩) 9 (take_lo _ (by decide)) (take_hi _ (by decide))) ?_
  refine q_setV (ev_ixOI [_, _, _, _] (eo_lst (ea_cons (ev_I0 (ec_M3 (ea_cons (ev_varV rfl) (ea_cons ev_c ea_nil)) ⟨by decide, by decide⟩) ev_c) (ea_cons (ec_M3 (ea_cons (ev_varV rfl) (ea_cons ev_c ea_nil)) ⟨by decide, by decide⟩) (ea_cons (ev_neg (ev_varV rfl)) (ea_cons ev_c ea_nil))))) (ec_M3 (ea_cons (ev_varV rfl) (ea_cons ev_c ea_nil)) ⟨by decide, by decide⟩) 4 (take_lo _ (by decide)) (take_hi _ (by decide))) ?_
  refine q_setV (ev_min2 (ev_powC (r := 1000000)) (ev_max2 ev_c (ev_I0 (ev_varV rfl) (ev_varV rfl)))) ?_
  refine q_setV (ev_I0 (ev_varV rfl) (ev_ixOI [_, _, _, _, _] (eo_lst (ea_cons ev_c (ea_cons (ec_M3 (ea_cons (ev_varV rfl) (ea_cons ev_c ea_nil)) ⟨by decide, by decide⟩) (ea_cons (ec_M3 (ea_cons (ev_varV rfl) (ea_cons ev_c ea_nil)) ⟨by decide, by decide⟩) (ea_cons ev_c (ea_cons (ev_powC (r := 1000000)) ea_nil)))))) (ec_M3 (ea_cons (ev_varV rfl) (ea_cons ev_c ea_nil)) ⟨by decide, by decide⟩) 5 (take_lo _ (by decide)) (take_hi _ (by decide)))) ?_
  refine s_ret (ev_tupD (ds := [_, _, _, _]) (ea_cons (Ev.dS (K := K) (ev_varV rfl)) (ea_cons (Ev.dI (K := K) (ev_varV rfl)) (ea_cons (Ev.dI (K := K) (ev_min2 (ev_powC (r := 1000000)) (ev_varV rfl))) (ea_cons (ec_M3 (ea_cons (ev_varV rfl) (ea_cons (ev_varV rfl) ea_nil)) trivial) ea_nil))))) fun v1 G2 e3 hv => ?_
  exact ⟨⟨[], List.Perm.refl _⟩, hv⟩
theorem sc_law_number : FnScope ["_law_word", "_law_sign"] ["_law_word"] (defScope (top 36)) := ⟨rfl, rfl, rfl, by decide +kernel, rfl, by decide +kernel, by decide +kernel⟩
theorem ok_law_number (T : Tx K mg)  {f : Addr} {fd : FuncData} (F : FnP K "_law_number" "_law_number" (top 36) f fd) : FnOk P w K mg base CX0 1 f fd ["_law_word"] spNumI := by
  refine F.ok sc_law_number (lenP1 fun _ => rfl) (fun cdv A outer s H vs Q E hr h => ?_)
  skip
  refine bodyP1 (pss_cons (ps_if (PW.pt (pw_or (pt_cmpR op_eq (pe_callB call_len (by rfl) T.n_len (by decide +kernel) (pa_cons (pv 0) pa_nil)) pe_int (nomark _)) (pw_or1 (pt_cmpR op_gt (pe_callB call_len (by rfl) T.n_len (by decide +kernel) (pa_cons (pe_lc (own := [("_law_sign", 1)]) (g := (gName 1)) (by rfl) sc_law_number.nd (pi_str (pv 0)) (blkOk_by (own := [("_law_sign", 1)]) (N := ["_law_word", "_law_sign"]) (sc := defScope (top 36)) (by decide +kernel)) (fun _ _ _ _ _ => (pg_name (i := 1) sc_law_number.nd rfl (by first | exact Or.inl rfl | exact Or.inr rfl))) (fun _ _ _ _ _ => pts_one (pt_cmpR op_notIn_sign (pv 1) pe_str rfl)) (fun _ _ _ _ _ => (pv 1))) pa_nil)) pe_int (nomark _))))) (pss_one (ps_ret (pe_un un_neg pe_int))) pss_nil)
        (pss_cons (ps_if (PW.pt (pw_and (pt_cmpR op_gt (pe_callB call_len (by rfl) T.n_len (by decide +kernel) (pa_cons (pv 0) pa_nil)) pe_int (nomark _)) (pw_and1 (pt_cmpR op_eq (pe_ix ix_str (pv 0) pe_int (fun _ _ => rfl)) pe_str (nomark _))))) (pss_one (ps_ret (pe_un un_neg pe_int))) pss_nil)
        (pss_one (ps_ret (pe_callTy call_int_str (by rfl) T.n_int (by decide +kernel) (pa_cons (pv 0) pa_nil)))))) ?_ h
  rintro w G M vs hp ha
  obtain ⟨v1, rfl, h1⟩ := als1 ha
  cases (show v1 = _ from h1)
  have hz : w.length ≤ sizeLine := Nat.le_trans hp (by decide)
  refine q_when (b := n22 w) (et_or (et_test (ev_eq (ev_lenS (ev_varV rfl) hz) ev_c rfl)) (fun _ => et_test (ev_I0 (ev_lenL (EvO.keep (eo_lcW (F := fun c => pS ⟨#[c]⟩) w.cps.toList (fun c => !isFig c) (fun c => pS ⟨#[c]⟩) (iw_str (ev_varV rfl)) (by rw [Array.length_toList]; exact Nat.lt_of_le_of_lt hp (by decide)) (fun j x G1 e1 hx => ag_nameV ⟨rfl, fun Dl c => ⟨et_test (ev_ninS (s := FIG) (ev_varV rfl) ev_c), fun _ => ev_varV rfl⟩⟩)))) ev_c))) (fun hc => ?_) (fun hc => ?_)
  · refine s_ret (ev_neg ev_c) fun v G1 e1 hv => ?_
    exact ⟨⟨[], List.Perm.refl _⟩, by rw [n22_bad hc]; exact hv⟩
  · obtain ⟨c, t, e, ha⟩ := n22_ok hc
    have hb := n22_zero e ha
    refine q_when (et_and (et_test (ev_I0 (ev_lenS (ev_varV rfl) hz) ev_c)) (fun _ => et_test (ev_eq (ev_ixS (ev_varV rfl) ev_c hz (show atI w.cps.toList 0 = some c by rw [e]; exact atI_head c t)) ev_c rfl))) (fun hc2 => ?_) (fun hc2 => ?_)
    · refine s_ret (ev_neg ev_c) fun v G1 e1 hv => ?_
      rw [hc2] at hb
      exact ⟨⟨[], List.Perm.refl _⟩, by unfold numI; rw [if_pos hb]; exact hv⟩
    · rw [hc2] at hb
      refine s_ret (ev_intS (ev_varV rfl) (num_reads hb hp) hp) fun v G1 e1 hv => ?_
      exact ⟨⟨[], List.Perm.refl _⟩, by unfold numI; rw [if_neg (by rw [hb]; exact Bool.false_ne_true)]; exact hv⟩
theorem sc_law_pair : FnScope ["_law_words", "_law_many", "_law_free", "_law_word"] ["_law_words"] (defScope (top 37)) := ⟨rfl, rfl, rfl, by decide +kernel, rfl, by decide +kernel, by decide +kernel⟩
theorem ok_law_pair (T : Tx K mg) (c_law_number : C8.Cal P w K mg base 1 "_law_number" spNumI []) {f : Addr} {fd : FuncData} (F : FnP K "_law_pair" "_law_pair" (top 37) f fd) : FnOk P w K mg base CX0 2 f fd ["_law_words"] (spPair K) := by
  refine F.ok sc_law_pair (lenP2 fun _ _ => rfl) (fun cdv A outer s H vs Q E hr h => ?_)
  skip
  refine bodyP2 (pss_cons (ps_asg (pe_lc (own := [("_law_word", 3)]) (g := (gName 3)) (by rfl) sc_law_pair.nd (pi_list (pv 0)) (blkOk_by (own := [("_law_word", 3)]) (N := ["_law_words", "_law_many", "_law_free", "_law_word"]) (sc := defScope (top 37)) (by decide +kernel)) (fun _ _ _ _ _ => (pg_name (i := 3) sc_law_pair.nd rfl (by first | exact Or.inl rfl | exact Or.inr rfl))) (fun _ _ _ _ _ => pts_nil) (fun _ _ _ _ _ => (C8.pe_c c_law_number hr (by decide) (by rfl) (pa_cons (pv 3) pa_nil)))) (pg_unl rfl (pgs_cons (pg_name (i := 1) sc_law_pair.nd rfl (by first | exact Or.inl rfl | exact Or.inr rfl)) (pgs_cons (pg_name (i := 2) sc_law_pair.nd rfl (by first | exact Or.inl rfl | exact Or.inr rfl)) pgs_nil))))
        (pss_cons (ps_if (PW.pt (pw_and (pt_chain op_le op_le pe_int (pv 1) pe_int) (pw_and1 (pt_chain op_le op_lt pe_int (pv 2) (pv 1))))) (pss_one (ps_ret (pe_tup (pa_cons (pv 1) (pa_cons (pv 2) pa_nil))))) pss_nil)
        (pss_one (ps_ret (pe_un un_neg pe_int))))) ?_ h
  rintro a b G M vs hp ha
  obtain ⟨v1, rfl, h1⟩ := als1 ha
  have h__law_words := h1
  refine q_asg (EvO.keep (eo_lcAW (F := pS) [a, b] (fun x => pI (numI x)) (iw_list (ev_var rfl h__law_words)) (by show (2 : Nat) < 100000; decide) (fun j x G1 e1 hx => ag_nameV ⟨rfl, fun Dl c => ec_P1 (a := x) (ea_cons (ev_varV rfl) ea_nil) (by
      have hm := List.mem_of_getElem? hx
      simp only [List.mem_cons, List.not_mem_nil, or_false] at hm
      rcases hm with rfl | rfl
      · exact hp.1
      · exact hp.2)⟩))) fun G1 e1 => ?_
  refine ag_unl (ags_cons (ag_nameV (ags_cons (ag_nameV (ags_nil ?_)))))
  refine q_when (et_and (et_test (ev_chain ev_c (ev_varV rfl) ev_c (fun _ _ q => ⟨_, _, rfl, rfl, q⟩) (fun _ _ q => ⟨_, _, rfl, rfl, q⟩))) (fun _ => et_test (ev_chain ev_c (ev_varV rfl) (ev_varV rfl) (fun _ _ q => ⟨_, _, rfl, rfl, q⟩) (fun _ _ q => ⟨_, _, rfl, rfl, q⟩)))) (fun hc => ?_) (fun hc => ?_)
  · refine s_ret (ev_tupD (K := K) (ds := [.int _, .int _]) (ea_cons (Ev.dI (ev_varV rfl)) (ea_cons (Ev.dI (ev_varV rfl)) ea_nil))) fun v G2 e2 hv => ?_
    rw [Bool.and_eq_true] at hc
    exact ⟨⟨[], List.Perm.refl _⟩, by unfold pairD; rw [if_pos hc.1, if_pos hc.2]; exact hv⟩
  · refine s_ret (Ev.dI (K := K) (ev_neg ev_c)) fun v G2 e2 hv => ?_
    exact ⟨⟨[], List.Perm.refl _⟩, by
      unfold pairD
      split
      · rename_i h1
        rw [h1, Bool.true_and] at hc
        rw [if_neg (by rw [hc]; exact Bool.false_ne_true)]
        exact hv
      · exact hv⟩
theorem sc_law_worth_by : FnScope ["_law_word", "_law_words", "_law_number_here"] ["_law_word", "_law_words"] (defScope (top 38)) := ⟨rfl, rfl, rfl, by decide +kernel, rfl, by decide +kernel, by decide +kernel⟩
theorem ok_law_worth_by (T : Tx K mg) (c_law_number : C8.Cal P w K mg base 1 "_law_number" spNumI []) (c_law_pair : C8.Cal P w K mg base 2 "_law_pair" (spPair K) []) {f : Addr} {fd : FuncData} (F : FnP K "_law_worth_by" "_law_worth_by" (top 38) f fd) : FnOk P w K mg base CX0 3 f fd ["_law_word", "_law_words"] (spWorthDue K) := by
  refine F.ok sc_law_worth_by (lenP2 fun _ _ => rfl) (fun cdv A outer s H vs Q E hr h => ?_)
  have hu : (A.deeper (PyProof.Rows.envOfC "_law_worth_by" (defScope (top 38)) s.heap.objs.size f cdv)).units + 64 < cLine := by have := hr.un; omega
  refine bodyP2 (pss_cons (ps_if (PW.pt (pw_and (pt_cmpR op_eq (pv 0) pe_str (nomark _)) (pw_and1 (pt_cmpR op_eq (pe_callB call_len (by rfl) T.n_len (by decide +kernel) (pa_cons (pv 1) pa_nil)) pe_int (nomark _))))) (pss_one (ps_ret (C8.pe_c c_law_pair hr (by decide) (by rfl) (pa_cons (pv 1) pa_nil)))) pss_nil)
        (pss_cons (ps_if (pt_cmpR op_ne (pe_callB call_len (by rfl) T.n_len (by decide +kernel) (pa_cons (pv 1) pa_nil)) pe_int (nomark _)) (pss_one (ps_ret (pe_un un_neg pe_int))) pss_nil)
        (pss_cons (ps_if (PW.pt (pw_and (pt_cmpR (op_eqD hu) (pv 1) (pe_lst (pa_cons pe_str pa_nil)) (nomark _)) (pw_and1 (pt_cmpR op_in_seq (pv 0) (pe_tup (pa_cons pe_str (pa_cons pe_str pa_nil))) (by with_unfolding_all rfl))))) (pss_one (ps_ret pe_non)) pss_nil)
        (pss_cons (ps_if (pt_cmpR op_in_seq (pv 0) (pe_tup (pa_cons pe_str (pa_cons pe_str pa_nil))) (by with_unfolding_all rfl)) (pss_one (ps_ret (pe_dget2 (Nat.lt_of_le_of_lt (Nat.add_le_add_left (by decide : 1 ≤ 64) _) hu) (pe_disp (pps_cons pe_str pe_bl (pps_cons pe_str pe_bl pps_nil)) rfl rfl (by simp) (by decide)) (pe_ix ix_list (pv 1) pe_int (fun _ _ => rfl)) (pe_un un_neg pe_int) ⟨rfl, rfl, rfl, rfl⟩))) pss_nil)
        (pss_cons (ps_set (i := 2) sc_law_worth_by.nd rfl (by first | exact Or.inl rfl | exact Or.inr rfl) (C8.pe_c c_law_number hr (by decide) (by rfl) (pa_cons (pe_ix ix_list (pv 1) pe_int (fun _ _ => rfl)) pa_nil)))
        (pss_cons (ps_if (PW.pt (pw_and (pt_cmpR op_in_seq (pv 0) (pe_tup (pa_cons pe_str (pa_cons pe_str pa_nil))) (by with_unfolding_all rfl)) (pw_and1 (pt_cmpR op_le (pv 2) (pe_op op_pow pe_int pe_int) (nomark _))))) (pss_one (ps_ret (pv 2))) pss_nil)
        (pss_cons (ps_if (PW.pt (pw_and (pt_cmpR op_in_seq (pv 0) (pe_tup (pa_cons pe_str (pa_cons pe_str pa_nil))) (by with_unfolding_all rfl)) (pw_and1 (pt_chain op_le op_le pe_int (pv 2) pe_int)))) (pss_one (ps_ret (pv 2))) pss_nil)
        (pss_one (ps_ret (pe_un un_neg pe_int)))))))))) ?_ h
  rintro w ws G M vs hp ha
  obtain ⟨v1, v2, rfl, h1, h2⟩ := als2 ha
  cases (show v1 = _ from h1)
  have h__law_words := h2
  obtain ⟨hl, hws⟩ := hp
  refine q_when (et_and (et_test (ev_eq (ev_varV rfl) ev_c rfl)) (fun _ => et_test (ev_eq (ev_lenL (ev_var rfl h__law_words)) ev_c rfl))) (fun hc => ?_) (fun hc => ?_)
  · rw [Bool.and_eq_true, List.length_map] at hc
    match ws, hc.2 with
    | [a, b], _ =>
      refine s_ret (ec_P2 (a := a) (b := b) (ea_cons (ev_var rfl h__law_words) ea_nil) ⟨(hws a (by simp)).1, (hws b (by simp)).1⟩) fun v G1 e1 hv => ?_
      exact ⟨⟨[], List.Perm.refl _⟩, by show (pD K (if decide (V.str w = V.str "deal") = true then _ else _)).h _ _; rw [if_pos hc.1]; exact hv⟩
  refine q_when (et_test (ev_ne (ev_lenL (ev_var rfl h__law_words)) ev_c rfl)) (fun hc1 => ?_) (fun hc1 => ?_)
  · refine s_ret (Ev.dI (K := K) (ev_neg ev_c)) fun v G1 e1 hv => ?_
    rw [List.length_map] at hc hc1
    exact ⟨⟨[], List.Perm.refl _⟩, by rw [due_long hc hc1]; exact hv⟩
  rw [List.length_map] at hc1
  obtain ⟨x, rfl⟩ := len_is1 hc1
  show Sm _ _ _ _ (OutR M (pD K (oneD w x)))
  have hx := hws x (by simp)
  refine q_when (b := decide (V.str x = V.str "none") && isPD w) (et_and (b := isPD w) (EvT.is (et_test (ev_eqD (Ev.dLS (ev_var rfl h__law_words)) (Ev.dLS (ws := ["none"]) (EvO.keep (eo_lst (ea_cons ev_c ea_nil)))) (shaped_strs hws) shaped_none)) (by rw [eqv_one, beq_str])) (fun _ => et_test (ev_inT (vs := [.str "price", .str "deal"]) (ev_varV rfl) (ev_tup (ea_cons ev_c (ea_cons ev_c ea_nil))) rfl rfl))) (fun hc2 => ?_) (fun hc2 => ?_)
  · refine s_ret (Ev.dN (K := K) ev_c) fun v G1 e1 hv => ?_
    exact ⟨⟨[], List.Perm.refl _⟩, by unfold oneD; rw [if_pos hc2]; exact hv⟩
  refine q_when (b := isYN w) (EvT.is (et_test (ev_inT (vs := [.str "come", .str "go"]) (ev_varV rfl) (ev_tup (ea_cons ev_c (ea_cons ev_c ea_nil))) rfl rfl)) inYN) (fun hc3 => ?_) (fun hc3 => ?_)
  · refine s_ret (ev_dgetC (kvs := ynK) (k := .inr x) (by decide) (ev_ixL (ev_var rfl h__law_words) ev_c (at_0 _ _)) (ev_neg ev_c)) fun v G1 e1 hv => ?_
    exact ⟨⟨[], List.Perm.refl _⟩, by unfold oneD; rw [if_neg (by rw [hc2]; exact Bool.false_ne_true), if_pos hc3]; exact yn_pD hv⟩
  refine q_setV (ec_P1 (ea_cons (ev_ixL (ev_var rfl h__law_words) ev_c (at_0 _ _)) ea_nil) hx.1) ?_
  refine q_when (b := isPF w && decide (numI x ≤ 1000000000000)) (et_and (et_test (ev_inT (vs := [.str "price", .str "fee"]) (ev_varV rfl) (ev_tup (ea_cons ev_c (ea_cons ev_c ea_nil))) rfl rfl)) (fun _ => et_test (ev_I0 (ev_varV rfl) (ev_powC (r := 1000000000000))))) (fun hc4 => ?_) (fun hc4 => ?_)
  · refine s_ret (Ev.dI (K := K) (ev_varV rfl)) fun v G1 e1 hv => ?_
    exact ⟨⟨[], List.Perm.refl _⟩, by unfold oneD; rw [if_neg (by rw [hc2]; exact Bool.false_ne_true), if_neg (by rw [hc3]; exact Bool.false_ne_true), if_pos hc4]; exact hv⟩
  refine q_when (b := isLM w && (decide (1 ≤ numI x) && decide (numI x ≤ 14))) (et_and (et_test (ev_inT (vs := [.str "least", .str "most"]) (ev_varV rfl) (ev_tup (ea_cons ev_c (ea_cons ev_c ea_nil))) rfl rfl)) (fun _ => et_test (ev_chain ev_c (ev_varV rfl) ev_c (fun _ _ q => ⟨_, _, rfl, rfl, q⟩) (fun _ _ q => ⟨_, _, rfl, rfl, q⟩)))) (fun hc5 => ?_) (fun hc5 => ?_)
  · refine s_ret (Ev.dI (K := K) (ev_varV rfl)) fun v G1 e1 hv => ?_
    exact ⟨⟨[], List.Perm.refl _⟩, by unfold oneD; rw [if_neg (by rw [hc2]; exact Bool.false_ne_true), if_neg (by rw [hc3]; exact Bool.false_ne_true), if_neg (by rw [hc4]; exact Bool.false_ne_true), if_pos hc5]; exact hv⟩
  · refine s_ret (Ev.dI (K := K) (ev_neg ev_c)) fun v G1 e1 hv => ?_
    exact ⟨⟨[], List.Perm.refl _⟩, by unfold oneD; rw [if_neg (by rw [hc2]; exact Bool.false_ne_true), if_neg (by rw [hc3]; exact Bool.false_ne_true), if_neg (by rw [hc4]; exact Bool.false_ne_true), if_neg (by rw [hc5]; exact Bool.false_ne_true)]; exact hv⟩
theorem sc_law_due : FnScope ["_law_text", "_law_words", "_law_first", "_law_last", "_law_worth_here", "_law_word"] ["_law_text"] (defScope (top 39)) := ⟨rfl, rfl, rfl, by decide +kernel, rfl, by decide +kernel, by decide +kernel⟩
theorem ok_law_due (T : Tx K mg) (c_law_number : C8.Cal P w K mg base 1 "_law_number" spNumI []) (c_law_worth_by : C8.Cal P w K mg base 3 "_law_worth_by" (spWorthDue K) []) {f : Addr} {fd : FuncData} (F : FnP K "_law_due" "_law_due" (top 39) f fd) : FnOk P w K mg base CX0 4 f fd ["_law_text"] (spDue K) := by
  refine F.ok sc_law_due (lenP1 fun _ => rfl) (fun cdv A outer s H vs Q E hr h => ?_)
  skip
  refine bodyP1 (pss_cons (ps_set (i := 1) sc_law_due.nd rfl (by first | exact Or.inl rfl | exact Or.inr rfl) (pe_split (pv 0) pe_str))
        (pss_cons (ps_if (PW.pt (pw_or (pt_cmpR op_lt (pe_callB call_len (by rfl) T.n_len (by decide +kernel) (pa_cons (pv 1) pa_nil)) pe_int (nomark _)) (pw_or1 (pt_cmpR op_notIn_seq (pe_ix ix_list (pv 1) pe_int (fun _ _ => rfl)) (pe_tup (pa_cons pe_str (pa_cons pe_str (pa_cons pe_str (pa_cons pe_str (pa_cons pe_str (pa_cons pe_str (pa_cons pe_str pa_nil)))))))) (by with_unfolding_all rfl))))) (pss_one (ps_ret pe_non)) pss_nil)
        (pss_cons (ps_asg (pe_lc (own := [("_law_word", 5)]) (g := (gName 5)) (by rfl) sc_law_due.nd (pi_list (pe_slice sl_list (pv 1) (po_some pe_int) (po_some pe_int))) (blkOk_by (own := [("_law_word", 5)]) (N := ["_law_text", "_law_words", "_law_first", "_law_last", "_law_worth_here", "_law_word"]) (sc := defScope (top 39)) (by decide +kernel)) (fun _ _ _ _ _ => (pg_name (i := 5) sc_law_due.nd rfl (by first | exact Or.inl rfl | exact Or.inr rfl))) (fun _ _ _ _ _ => pts_nil) (fun _ _ _ _ _ => (C8.pe_c c_law_number hr (by decide) (by rfl) (pa_cons (pv 5) pa_nil)))) (pg_unl rfl (pgs_cons (pg_name (i := 2) sc_law_due.nd rfl (by first | exact Or.inl rfl | exact Or.inr rfl)) (pgs_cons (pg_name (i := 3) sc_law_due.nd rfl (by first | exact Or.inl rfl | exact Or.inr rfl)) pgs_nil))))
        (pss_cons (ps_set (i := 4) sc_law_due.nd rfl (by first | exact Or.inl rfl | exact Or.inr rfl) (C8.pe_c c_law_worth_by hr (by decide) (by rfl) (pa_cons (pe_ix ix_list (pv 1) pe_int (fun _ _ => rfl)) (pa_cons (pe_slice sl_list (pv 1) (po_some pe_int) po_none) pa_nil))))
        (pss_cons (ps_if (PW.pt (pw_or (pt_not (pt_chain3 op_le op_le op_le pe_int (pv 2) (pv 3) (pe_op op_pow pe_int pe_int))) (pw_or1 (PW.pt (pw_and (pt_val (pe_callB call_isi (by rfl) T.n_isinstance (by decide +kernel) (pa_cons (pv 4) (pa_cons (pe_bltn (v := .ty "int") (by rfl) T.n_int (by decide +kernel) rfl) pa_nil)))) (pw_and (pt_not (pt_val (pe_callB call_isi (by rfl) T.n_isinstance (by decide +kernel) (pa_cons (pv 4) (pa_cons (pe_bltn (v := .ty "bool") (by rfl) T.n_bool (by decide +kernel) rfl) pa_nil))))) (pw_and1 (pt_cmpR op_lt (pv 4) pe_int (nomark _))))))))) (pss_one (ps_ret pe_non)) pss_nil)
        (pss_one (ps_ret (pe_tup (pa_cons (pe_ix ix_list (pv 1) pe_int (fun _ _ => rfl)) (pa_cons (pv 2) (pa_cons (pv 3) (pa_cons (pv 4) pa_nil)))))))))))) ?_ h
  rintro t G M vs hp ha
  obtain ⟨v1, rfl, h1⟩ := als1 ha
  cases (show v1 = _ from h1)
  have hsp := split_ok hp
  refine q_set (EvO.keep (eo_split (ev_varV rfl) ev_c (by decide) (Nat.le_trans (Nat.add_le_add_right hp.1 2) (by decide)))) fun v1 G1 e1 h_words => ?_
  rw [show Txt.split t (Str.ofString " ") = Txt.split t SP from rfl] at h_words
  by_cases hlong : (Txt.split t SP).length < 4
  · refine q_when (b := true) (et_or (b := true) (EvT.is (a := decide ((((Txt.split t SP).map pS).length : Int) < 4)) (b := true) (et_test (ev_I0 (ev_lenL (ev_var rfl h_words)) ev_c)) (decide_eq_true (by rw [List.length_map]; omega))) (fun hb => by cases hb)) (fun _ => ?_) (fun hc => by cases hc)
    refine s_ret (Ev.dN (K := K) ev_c) fun v G2 e2 hv => ?_
    exact ⟨⟨[], List.Perm.refl _⟩, by rw [due_short hlong]; exact hv⟩
  obtain ⟨w, f, l, z, ws, e⟩ := due_long4 hlong
  rw [e] at h_words hsp
  have hw0 : okS w := hsp.2 w (by simp)
  have hf0 : okS f := hsp.2 f (by simp)
  have hl0 : okS l := hsp.2 l (by simp)
  have hws : ∀ x ∈ z :: ws, okS x := fun x hx => hsp.2 x (by simp only [List.mem_cons] at hx ⊢; exact .inr (.inr (.inr hx)))
  have hwl : (z :: ws).length ≤ 1000 := by have := hsp.1; simp only [List.length_cons] at this ⊢; omega
  rw [due_4 e]
  refine q_when (b := !inV (.str w) (WORDS.map V.str)) (EvT.is (et_or (EvT.is (a := decide ((((w :: f :: l :: z :: ws).map pS).length : Int) < 4)) (b := false) (et_test (ev_I0 (ev_lenL (ev_var rfl h_words)) ev_c)) (decide_eq_false (by simp only [List.length_map, List.length_cons]; omega))) (fun _ => et_test (ev_ninT (vs := WORDS.map V.str) (ev_ixL (ev_var rfl h_words) ev_c (at_0 _ _)) (ev_tup (ea_cons ev_c (ea_cons ev_c (ea_cons ev_c (ea_cons ev_c (ea_cons ev_c (ea_cons ev_c (ea_cons ev_c ea_nil)))))))) rfl rfl))) (Bool.false_or _)) (fun hc => ?_) (fun hc => ?_)
  · refine s_ret (Ev.dN (K := K) ev_c) fun v G2 e2 hv => ?_
    exact ⟨⟨[], List.Perm.refl _⟩, by rw [if_pos hc]; exact hv⟩
  rw [if_neg (show ¬ (!inV (.str w) (WORDS.map V.str)) = true by rw [hc]; exact Bool.false_ne_true)]
  refine q_asg (EvO.keep (eo_lcAW (F := pS) [f, l] (fun x => pI (numI x)) (iw_list (EvO.keep (EvO.is (eo_slL (ev_var rfl h_words) (eb_some ev_c) (eb_some ev_c)) (cut_13 _ _ _ _ _)))) (by show (2 : Nat) < 100000; decide) (fun j x G2 e2 hx => ag_nameV ⟨rfl, fun Dl c => ec_P1 (a := x) (ea_cons (ev_varV rfl) ea_nil) (by
      have hm := List.mem_of_getElem? hx
      simp only [List.mem_cons, List.not_mem_nil, or_false] at hm
      rcases hm with rfl | rfl
      · exact hf0.1
      · exact hl0.1)⟩))) fun G2 e2 => ?_
  replace h_words := Pr.m _ e2 h_words
  refine ag_unl (ags_cons (ag_nameV (ags_cons (ag_nameV (ags_nil ?_)))))
  refine q_set (ec_P2 (a := w) (b := z :: ws) (ea_cons (ev_ixL (ev_var rfl h_words) ev_c (at_0 _ _)) (ea_cons (EvO.keep (EvO.is (eo_slL (ev_var rfl h_words) (eb_some ev_c) eb_none) (cut_three _ _ _ _))) ea_nil)) ⟨hwl, hws⟩) fun v3 G3 e3 h_worth => ?_
  replace h_words := Pr.m _ e3 h_words
  refine q_when (et_or (et_not (et_test (ev_chain3 (f1 := fun i j => decide (i ≤ j)) (f2 := fun i j => decide (i ≤ j)) (f3 := fun i j => decide (i ≤ j)) ev_c (ev_varV rfl) (ev_varV rfl) (ev_powC (r := 1000000)) (fun _ _ q => ⟨_, _, rfl, rfl, q⟩) (fun _ _ q => ⟨_, _, rfl, rfl, q⟩) (fun _ _ q => ⟨_, _, rfl, rfl, q⟩)))) (fun _ => et_and (et_B (ev_isiD (ev_var rfl h_worth))) (fun hi => et_and (b := neg (worthDue w (z :: ws))) (et_not (et_B (ev_isiD (ev_var rfl h_worth)))) (fun hi2 => ?_)))) (fun hc2 => ?_) (fun hc2 => ?_)
  · obtain ⟨n, hn⟩ := int_only hi hi2
    exact EvT.is (et_test (ev_I0 (Ev.vI (K := K) (Ev.asD (ev_var rfl h_worth) hn)) ev_c)) (by rw [hn]; rfl)
  · refine s_ret (Ev.dN (K := K) ev_c) fun v G4 e4 hv => ?_
    exact ⟨⟨[], List.Perm.refl _⟩, by rw [if_pos hc2]; exact hv⟩
  · refine s_ret (ev_tupD (K := K) (ds := [.str w, .int (numI f), .int (numI l), worthDue w (z :: ws)]) (ea_cons (Ev.dS (ev_ixL (ev_var rfl h_words) ev_c (at_0 _ _))) (ea_cons (Ev.dI (ev_varV rfl)) (ea_cons (Ev.dI (ev_varV rfl)) (ea_cons (ev_var rfl h_worth) ea_nil))))) fun v G4 e4 hv => ?_
    exact ⟨⟨[], List.Perm.refl _⟩, by rw [if_neg (by rw [hc2]; exact Bool.false_ne_true)]; exact hv⟩
theorem sc_law_odd : FnScope ["_law_row", "_law_some"] ["_law_row"] (defScope (top 40)) := ⟨rfl, rfl, rfl, by decide +kernel, rfl, by decide +kernel, by decide +kernel⟩
theorem ok_law_odd (T : Tx K mg) (c_law_take : C8.Cal P w K mg base 1 "_law_take" spTake []) {f : Addr} {fd : FuncData} (F : FnP K "_law_odd" "_law_odd" (top 40) f fd) : FnOk P w K mg base CX0 2 f fd ["_law_row"] spOdd := by
  refine F.ok sc_law_odd (lenM2 fun _ _ => rfl) (fun cdv A outer s H vs Q E hr h => ?_)
  skip
  refine bodyM2 (pss_cons (ps_set (i := 1) sc_law_odd.nd rfl (by first | exact Or.inl rfl | exact Or.inr rfl) (pe_lst (pa_cons pe_str (pa_cons pe_str (pa_cons pe_str (pa_cons pe_str (pa_cons pe_str (pa_cons pe_str (pa_cons pe_str (pa_cons pe_str (pa_cons pe_str (pa_cons pe_str (pa_cons pe_str pa_nil)))))))))))))
        (pss_cons (ps_set (i := 1) sc_law_odd.nd rfl (by first | exact Or.inl rfl | exact Or.inr rfl) (pe_op op_cat (pv 1) (pe_lst (pa_cons pe_str (pa_cons pe_str (pa_cons pe_str (pa_cons pe_str (pa_cons pe_str (pa_cons pe_str (pa_cons pe_str (pa_cons pe_str (pa_cons pe_str (pa_cons pe_str pa_nil)))))))))))))
        (pss_one (ps_ret (pe_ix ix_list (pe_op op_cat (pv 1) (pe_lst (pa_cons pe_str (pa_cons (pe_op op_mulS pe_str pe_int) (pa_cons pe_str (pa_cons pe_str (pa_cons pe_str pa_nil))))))) (C8.pe_c c_law_take hr (by decide) (by rfl) (pa_cons (pv 0) (pa_cons pe_int pa_nil))) (fun _ _ => rfl)))))) ?_ h
  rintro p r G M vs hp ha
  obtain ⟨v1, rfl, h1⟩ := als1 ha
  cases (show v1 = _ from h1)
  refine q_set (EvO.keep (eo_lst (ps := odd1.map pS) (ea_cons ev_c (ea_cons ev_c (ea_cons ev_c (ea_cons ev_c (ea_cons ev_c (ea_cons ev_c (ea_cons ev_c (ea_cons ev_c (ea_cons ev_c (ea_cons ev_c (ea_cons ev_c ea_nil))))))))))))) fun v2 G1 e1 h1 => ?_
  refine q_set (EvO.keep (EvO.is (qs := (odd1 ++ odd2).map pS) (eo_cat (ev_var rfl h1) (EvO.keep (eo_lst (ps := odd2.map pS) (ea_cons ev_c (ea_cons ev_c (ea_cons ev_c (ea_cons ev_c (ea_cons ev_c (ea_cons ev_c (ea_cons ev_c (ea_cons ev_c (ea_cons ev_c (ea_cons ev_c ea_nil)))))))))))) (show (11 : Nat) + 10 ≤ 100000 by decide)) (by rw [List.map_append]))) fun v3 G2 e2 h2 => ?_
  refine s_ret (ev_ixOS oddL (EvO.is (eo_cat (ev_var rfl h2) (EvO.keep (eo_lst (ps := odd3.map pS) (ea_cons ev_c (ea_cons (ev_mulS ev_c ev_c mul_ok) (ea_cons ev_c (ea_cons ev_c (ea_cons ev_c ea_nil))))))) (show (21 : Nat) + 5 ≤ 100000 by decide)) (by rw [oddL, List.map_append]; rfl)) (ec_M3 (ea_cons (ev_varV rfl) (ea_cons ev_c ea_nil)) ⟨by decide, by decide⟩) 26 (take_lo _ (by decide)) (take_hi _ (by decide))) fun v G3 e3 hv => ?_
  exact ⟨⟨[], List.Perm.refl _⟩, hv⟩
theorem sc_law_bent : FnScope ["_law_row", "_law_text", "_law_words", "_law_at", "_law_to", "_law_way", "_law_cut", "_law_sign"] ["_law_row", "_law_text"] (defScope (top 41)) := ⟨rfl, rfl, rfl, by decide +kernel, rfl, by decide +kernel, by decide +kernel⟩
theorem ok_law_bent (T : Tx K mg) (c_law_take : C8.Cal P w K mg base 1 "_law_take" spTake []) (c_law_odd : C8.Cal P w K mg base 2 "_law_odd" spOdd []) {f : Addr} {fd : FuncData} (F : FnP K "_law_bent" "_law_bent" (top 41) f fd) : FnOk P w K mg base CX0 3 f fd ["_law_row", "_law_text"] spBent := by
  refine F.ok sc_law_bent (lenX fun _ => rfl) (fun cdv A outer s H vs Q E hr h => ?_)
  skip
  refine bodyX (pss_cons (ps_set (i := 2) sc_law_bent.nd rfl (by first | exact Or.inl rfl | exact Or.inr rfl) (pe_split (pv 1) pe_str))
        (pss_cons (ps_set (i := 3) sc_law_bent.nd rfl (by first | exact Or.inl rfl | exact Or.inr rfl) (C8.pe_c c_law_take hr (by decide) (by rfl) (pa_cons (pv 0) (pa_cons (pe_callB call_len (by rfl) T.n_len (by decide +kernel) (pa_cons (pv 2) pa_nil)) pa_nil))))
        (pss_cons (ps_set (i := 4) sc_law_bent.nd rfl (by first | exact Or.inl rfl | exact Or.inr rfl) (C8.pe_c c_law_take hr (by decide) (by rfl) (pa_cons (pv 0) (pa_cons (pe_callB call_len (by rfl) T.n_len (by decide +kernel) (pa_cons (pv 2) pa_nil)) pa_nil))))
        (pss_cons (ps_set (i := 5) sc_law_bent.nd rfl (by first | exact Or.inl rfl | exact Or.inr rfl) (C8.pe_c c_law_take hr (by decide) (by rfl) (pa_cons (pv 0) (pa_cons pe_int pa_nil))))
        (pss_cons (ps_if (pt_cmpR op_eq (pv 5) pe_int (nomark _)) (pss_one (ps_expr (pe_bm PySem.F.plainAttrs_list PySem.F.slot_list_pop PySem.F.type_list_pop mt_popAt (pv 2) (pa_cons (pv 3) pa_nil)))) (pss_one (ps_if (pt_cmpR op_eq (pv 5) pe_int (nomark _)) (pss_one (ps_expr (pe_bm PySem.F.plainAttrs_list PySem.F.slot_list_insert PySem.F.type_list_insert mt_insert (pv 2) (pa_cons (pv 3) (pa_cons (pe_ix ix_list (pv 2) (pv 4) (fun _ _ => rfl)) pa_nil))))) (pss_one (ps_if (pt_cmpR op_eq (pv 5) pe_int (nomark _)) (pss_one (ps_asg (pe_tup (pa_cons (pe_ix ix_list (pv 2) (pv 4) (fun _ _ => rfl)) (pa_cons (pe_ix ix_list (pv 2) (pv 3) (fun _ _ => rfl)) pa_nil))) (pg_tup (by rfl) (pgs_cons (pg_sub (pv 2) (pv 3) set_list) (pgs_cons (pg_sub (pv 2) (pv 4) set_list) pgs_nil))))) (pss_one (ps_if (pt_cmpR op_eq (pv 5) pe_int (nomark _)) (pss_one (ps_expr (pe_bm PySem.F.plainAttrs_list PySem.F.slot_list_insert PySem.F.type_list_insert mt_insert (pv 2) (pa_cons (pv 3) (pa_cons (C8.pe_c c_law_odd hr (by decide) (by rfl) (pa_cons (pv 0) pa_nil)) pa_nil))))) (pss_one (ps_if (pt_cmpR op_lt (pv 5) pe_int (nomark _)) (pss_one (ps_asg (C8.pe_c c_law_odd hr (by decide) (by rfl) (pa_cons (pv 0) pa_nil)) (pg_sub (pv 2) (pv 3) set_list))) (pss_one (ps_if (pt_cmpR op_eq (pv 5) pe_int (nomark _)) (pss_one (ps_expr (pe_bm PySem.F.plainAttrs_list PySem.F.slot_list_append PySem.F.type_list_append mt_append (pv 2) (pa_cons (C8.pe_c c_law_odd hr (by decide) (by rfl) (pa_cons (pv 0) pa_nil)) pa_nil)))) (pss_one (ps_if (pt_cmpR op_eq (pv 5) pe_int (nomark _)) (pss_cons (ps_set (i := 6) sc_law_bent.nd rfl (by first | exact Or.inl rfl | exact Or.inr rfl) (C8.pe_c c_law_take hr (by decide) (by rfl) (pa_cons (pv 0) (pa_cons (pe_op op_add (pe_callB call_len (by rfl) T.n_len (by decide +kernel) (pa_cons (pv 1) pa_nil)) pe_int) pa_nil))))
        (pss_cons (ps_set (i := 7) sc_law_bent.nd rfl (by first | exact Or.inl rfl | exact Or.inr rfl) (pe_ix ix_list (pe_lst (pa_cons pe_str (pa_cons pe_str (pa_cons pe_str (pa_cons pe_str (pa_cons pe_str (pa_cons pe_str pa_nil))))))) (C8.pe_c c_law_take hr (by decide) (by rfl) (pa_cons (pv 0) (pa_cons pe_int pa_nil))) (fun _ _ => rfl)))
        (pss_one (ps_ret (pe_op op_add_str (pe_op op_add_str (pe_slice sl_str (pv 1) po_none (po_some (pv 6))) (pv 7)) (pe_slice sl_str (pv 1) (po_some (pe_op op_add (pv 6) (C8.pe_c c_law_take hr (by decide) (by rfl) (pa_cons (pv 0) (pa_cons pe_int pa_nil))))) po_none)))))) (pss_one (ps_if (pt_cmpR op_eq (pv 5) pe_int (nomark _)) (pss_one (ps_ret (pe_slice sl_str (pv 1) po_none (po_some (C8.pe_c c_law_take hr (by decide) (by rfl) (pa_cons (pv 0) (pa_cons (pe_op op_add (pe_callB call_len (by rfl) T.n_len (by decide +kernel) (pa_cons (pv 1) pa_nil)) pe_int) pa_nil))))))) pss_nil)))))))))))))))
        (pss_one (ps_ret (pe_join pe_str (pv 2))))))))) ?_ h
  rintro ⟨p, r, t⟩ G M vs hp ha
  have ha : Als G [pV (.ref p), pS t] vs := ha
  obtain ⟨v1, v2, rfl, h1, h2⟩ := als2 ha
  cases (show v1 = _ from h1)
  cases (show v2 = _ from h2)
  have hq : okB t := hp
  have hb : okW 201 (Txt.split t SP) := split_okW hq
  obtain ⟨hc0, hc1⟩ := split_cnt hq
  refine q_setO (eo_split (ev_varV rfl) ev_c (by decide) (Nat.le_trans (Nat.add_le_add_right hq.1 2) (by decide))) fun pw => ?_
  rw [show Txt.split t (Str.ofString " ") = Txt.split t SP from rfl]
  generalize hws : Txt.split t SP = ws at hb hc0 hc1 ⊢
  have hl : ((ws.map pS).length : Int) = (ws.length : Int) := by rw [List.length_map]
  refine q_setV (Ev.sw (ec_M3 (ea_cons (ev_varV rfl) (ea_cons (ev_lenM (ev_varV rfl) (.tail _ List.mem_cons_self)) ea_nil)) ⟨by first | exact hc0 | (rw [hl]; exact hc0), by first | omega | (rw [hl]; omega)⟩)) ?_
  refine q_setV (Ev.sw (ec_M3 (ea_cons (ev_varV rfl) (ea_cons (ev_lenM (ev_varV rfl) (.tail _ List.mem_cons_self)) ea_nil)) ⟨by first | exact hc0 | (rw [hl]; exact hc0), by first | omega | (rw [hl]; omega)⟩)) ?_
  refine q_setV (Ev.sw (ec_M3 (ea_cons (ev_varV rfl) (ea_cons ev_c ea_nil)) ⟨by decide, by decide⟩)) ?_
  rw [hl]
  generalize hat : take r (ws.length : Int) = a
  have ha0 : 0 ≤ a := by rw [← hat]; exact take_lo _ hc0
  have ha1 : a < ws.length := by rw [← hat]; exact take_hi _ hc0
  generalize hbt : take (takeR r (ws.length : Int)) (ws.length : Int) = b
  have hb0 : 0 ≤ b := by rw [← hbt]; exact take_lo _ hc0
  have hb1 : b < ws.length := by rw [← hbt]; exact take_hi _ hc0
  generalize takeR (takeR (takeR r (ws.length : Int)) (ws.length : Int)) 10 = r3
  generalize take (takeR (takeR r (ws.length : Int)) (ws.length : Int)) 10 = wy
  have fin : ∀ {G' : Hp} {us : List Str} {r' : Dr.Row} {n : Nat}, okW n us → n ≤ 640 → Sm (tRet (tM1 (rcJoin K) (tC (.str " ")) (tVar 2))) [some (.ref p), some (.str t), some (.ref pw), some (.int a), some (.int b), some (.int wy), none, none] G' ((pw, .lst (us.map pS)) :: (p, cRow r') :: M) (OutX M (fun (_ : BentA) (i : Dr.Row × Str) => okS i.2) (fun a i => [(a.1, cRow i.1)]) (fun _ i => pS i.2) (p, r, t)) := fun {G' us r' n} h hn => Sm.keepL fun G1 e1 hw => s_ret (ev_join (s := SP) (ys := us) ev_c (ev_var rfl hw) (join_sz h hn)) fun v G2 e2 hv => ⟨(r', Txt.join SP us), join_ok h hn, ⟨[], List.Perm.refl _⟩, hv⟩
  obtain ⟨xa, hxa, hga, haa⟩ := atI_map (F := pS) ha0 ha1
  obtain ⟨xb, hxb, hgb, hab⟩ := atI_map (F := pS) hb0 hb1
  have la : xa.length + 1 ≤ 201 := Nat.le_trans (tot_mem hxa) hb.1
  have lb : xb.length + 1 ≤ 201 := Nat.le_trans (tot_mem hxb) hb.1
  have sa := hb.2 xa hxa
  have sb := hb.2 xb hxb
  have lo : ∀ r', (oddV r').length + 1 ≤ 71 := fun r' => Nat.succ_le_succ (odd_ok _ (odd_in r')).1
  have so : ∀ r', PyData.strOk (oddV r') = true := fun r' => (odd_ok _ (odd_in r')).2
  have hcnt : (ws.map pS).length < 100000 := by rw [List.length_map]; omega
  have ja : ixN (ws.map pS).length a = some a.toNat := ixN_at ha0 (by rw [List.length_map]; exact ha1)
  have jb : ixN (ws.map pS).length b = some b.toNat := ixN_at hb0 (by rw [List.length_map]; exact hb1)
  have EQ : ∀ (c : Int) (G' : Hp) (N : Cells), EvT (tTest (tOp rEq (tVar 5) (tC (.int c)))) [some (.ref p), some (.str t), some (.ref pw), some (.int a), some (.int b), some (.int wy), none, none] G' N N (decide (V.int wy = .int c)) := fun c G' N => et_test (ev_eq (ev_varV rfl) ev_c rfl)
  refine q_if (EQ 0 _ _) (fun _ => ?_) (fun _ => s_if (EQ 1 _ _) (fun _ => ?_) (fun _ => s_if (EQ 2 _ _) (fun _ => ?_) (fun _ => s_if (EQ 3 _ _) (fun _ => ?_) (fun _ => s_if (et_test (ev_I0 (ev_varV rfl) ev_c)) (fun _ => ?_) (fun _ => s_if (EQ 6 _ _) (fun _ => ?_) (fun _ => s_if (EQ 7 _ _) (fun _ => ?_) (fun _ => s_when (EQ 8 _ _) (fun _ => ?_) (fun _ G1 e1 => fin hb (by decide)))))))))
  · refine s_popA (ev_varV rfl) List.mem_cons_self (ev_varV rfl) (seq_at ha0 (by rw [List.length_map]; exact ha1)) (by rw [List.length_map]; omega) (by constructor <;> omega) fun G1 e1 => ?_
    rw [erase_map]
    exact fin (hb.erase _) (by decide)
  · refine s_ins (ev_varV rfl) List.mem_cons_self (ea_cons (ev_varV rfl) (ea_cons (ev_ixM (ev_varV rfl) (ev_varV rfl) List.mem_cons_self hab) ea_nil)) hcnt (by constructor <;> omega) fun G1 e1 => ?_
    rw [ins_map]
    exact fin (hb.ins lb sb _) (by decide)
  · refine s_asgC (ev_tup (K := K) (ea_cons (ev_ixM (ev_varV rfl) (ev_varV rfl) List.mem_cons_self hab) (ea_cons (ev_ixM (ev_varV rfl) (ev_varV rfl) List.mem_cons_self haa) ea_nil))) fun G1 e1 => ?_
    refine agc_tup (agsc_cons (agc_sub (ev_varV rfl) (ev_varV rfl) ja fun G2 e2 => agsc_cons (agc_sub (ev_varV rfl) (ev_varV rfl) (by rw [List.length_set]; exact jb) fun G3 e3 => agsc_nil fun G4 e4 => ?_)))
    rw [Pm.set_map, Pm.set_map]
    exact fin ((hb.set lb sb _).set la sa _) (by decide)
  · refine s_ins (ev_varV rfl) List.mem_cons_self (ea_cons (ev_varV rfl) (ea_cons (Ev.sw (ec_M2 (ea_cons (ev_varV rfl) ea_nil) trivial)) ea_nil)) hcnt (by constructor <;> omega) fun G1 e1 => ?_
    rw [ins_map]
    exact fin (hb.ins (lo _) (so _) _) (by decide)
  · refine s_put (Ev.sw (ec_M2 (ea_cons (ev_varV rfl) ea_nil) trivial)) (ev_varV rfl) (ev_varV rfl) ja fun G1 e1 => ?_
    rw [Pm.set_map]
    exact fin (hb.set (lo _) (so _) _) (by decide)
  · refine s_app (ev_varV rfl) List.mem_cons_self (Ev.sw (ec_M2 (ea_cons (ev_varV rfl) ea_nil) trivial)) hcnt fun G1 e1 => ?_
    rw [app_map]
    exact fin (hb.app (lo _) (so _)) (by decide)
  · have ht1 : 0 < (t.length : Int) + 1 ∧ (t.length : Int) + 1 < 1073741824 := by have := hq.1; omega
    have hsz : t.length ≤ sizeLine := Nat.le_trans hq.1 (by decide)
    refine q_setV (Ev.sw (ec_M3 (ea_cons (ev_varV rfl) (ea_cons (ev_I0 (ev_lenS (ev_varV rfl) hsz) ev_c) ea_nil)) ht1)) ?_
    refine q_set (ev_ixOS signsL (eo_lst (ps := signsL.map pS) (ea_cons ev_c (ea_cons ev_c (ea_cons ev_c (ea_cons ev_c (ea_cons ev_c (ea_cons ev_c ea_nil))))))) (Ev.sw (ec_M3 (ea_cons (ev_varV rfl) (ea_cons ev_c ea_nil)) ⟨by decide, by decide⟩)) 6 (take_lo _ (by decide)) (take_hi _ (by decide))) fun v6 G1 e1 h6 => ?_
    cases (show v6 = _ from h6)
    generalize hsg : signsL.getD (take (takeR r3 ((t.length : Int) + 1)) 6).toNat Str.empty = sg
    have hso := signs_ok sg (by rw [← hsg]; exact getD_mem (show (take (takeR r3 ((t.length : Int) + 1)) 6).toNat < 6 by have := take_lo (takeR r3 ((t.length : Int) + 1)) (b := 6) (by decide); have := take_hi (takeR r3 ((t.length : Int) + 1)) (b := 6) (by decide); omega))
    refine s_ret (ev_addS (ev_addS (ev_slS (ev_varV rfl) eb_none (eb_some (ev_varV rfl)) hsz) (ev_varV rfl) (by have := cutS_length t none (some (take r3 ((t.length : Int) + 1))); have := hq.1; show _ ≤ 2 ^ 24; omega)) (ev_slS (ev_varV rfl) (eb_some (ev_I0 (ev_varV rfl) (Ev.sw (ec_M3 (ea_cons (ev_varV rfl) (ea_cons ev_c ea_nil)) ⟨by decide, by decide⟩)))) eb_none hsz) (by rw [Str.length_append]; have := cutS_length t none (some (take r3 ((t.length : Int) + 1))); have := cutS_length t (some (take r3 ((t.length : Int) + 1) + take (takeR (takeR r3 ((t.length : Int) + 1)) 6) 2)) none; have := hq.1; show _ ≤ 2 ^ 24; omega)) fun v G2 e2 hv => ?_
    refine ⟨(_, _), ⟨?_, app_ok (app_ok (cut_ok hq.2 _ _) hso.2) (cut_ok hq.2 _ _)⟩, ⟨[_], List.Perm.refl _⟩, hv⟩
    rw [Str.length_append, Str.length_append]
    have := cutS_length t none (some (take r3 ((t.length : Int) + 1)))
    have := cutS_length t (some (take r3 ((t.length : Int) + 1) + take (takeR (takeR r3 ((t.length : Int) + 1)) 6) 2)) none
    have := hq.1
    omega
  · have ht1 : 0 < (t.length : Int) + 1 ∧ (t.length : Int) + 1 < 1073741824 := by have := hq.1; omega
    have hsz : t.length ≤ sizeLine := Nat.le_trans hq.1 (by decide)
    refine s_ret (ev_slS (ev_varV rfl) eb_none (eb_some (Ev.sw (ec_M3 (ea_cons (ev_varV rfl) (ea_cons (ev_I0 (ev_lenS (ev_varV rfl) hsz) ev_c) ea_nil)) ht1))) hsz) fun v G2 e2 hv => ?_
    exact ⟨(takeR r3 ((t.length : Int) + 1), cutS t none (some (take r3 ((t.length : Int) + 1)))), ⟨Nat.le_trans (cutS_length t none (some (take r3 ((t.length : Int) + 1)))) (Nat.le_trans hq.1 (by decide)), cut_ok hq.2 _ _⟩, ⟨[_], List.Perm.refl _⟩, hv⟩
theorem sc_law_right : FnScope ["_law_text", "_law_due_here", "_law_found"] ["_law_text"] (defScope (top 42)) := ⟨rfl, rfl, rfl, by decide +kernel, rfl, by decide +kernel, by decide +kernel⟩
theorem ok_law_right (T : Tx K mg) (c_law_due : C8.Cal P w K mg base 4 "_law_due" (spDue K) []) (c_rule_by : C8.Cal P w K mg base 6 "rule_by" (spRuleBy K) []) {f : Addr} {fd : FuncData} (F : FnP K "_law_right" "_law_right" (top 42) f fd) : FnOk P w K mg base CX0 7 f fd ["_law_text"] spRight := by
  refine F.ok sc_law_right (lenP1 fun _ => rfl) (fun cdv A outer s H vs Q E hr h => ?_)
  have hu : (A.deeper (PyProof.Rows.envOfC "_law_right" (defScope (top 42)) s.heap.objs.size f cdv)).units + 64 < cLine := by have := hr.un; omega
  refine bodyP1 (pss_cons (ps_set (i := 1) sc_law_right.nd rfl (by first | exact Or.inl rfl | exact Or.inr rfl) (C8.pe_c c_law_due hr (by decide) (by rfl) (pa_cons (pv 0) pa_nil)))
        (pss_cons (ps_set (i := 2) sc_law_right.nd rfl (by first | exact Or.inl rfl | exact Or.inr rfl) (C8.pe_c c_rule_by hr (by decide) (by rfl) (pa_cons (pv 0) pa_nil)))
        (pss_cons (ps_if (PW.pt (pw_or (pt_cmpR op_isN (pv 1) pe_non (nomark _)) (pw_or1 (pt_cmpR op_isN (pv 2) pe_non (nomark _))))) (pss_one (ps_ret (pe_and (pe_cmpR op_isN (pv 1) pe_non (nomark _)) (pe_one (pe_cmpR op_isN (pv 2) pe_non (nomark _)))))) pss_nil)
        (pss_one (ps_ret (pe_and (pe_callB call_isi (by rfl) T.n_isinstance (by decide +kernel) (pa_cons (pv 2) (pa_cons (pe_bltn (v := .ty "tuple") (by rfl) T.n_tuple (by decide +kernel) rfl) pa_nil))) (pe_and (pe_cmpR (op_eqD hu) (pv 2) (pv 1) (nomark _)) (pe_one (pe_cmpR op_eq (pe_callB call_isi (by rfl) T.n_isinstance (by decide +kernel) (pa_cons (pe_ix ix_tup (pv 2) pe_int (fun _ _ => rfl)) (pa_cons (pe_bltn (v := .ty "bool") (by rfl) T.n_bool (by decide +kernel) rfl) pa_nil))) (pe_callB call_isi (by rfl) T.n_isinstance (by decide +kernel) (pa_cons (pe_ix ix_tup (pv 1) pe_int (fun _ _ => rfl)) (pa_cons (pe_bltn (v := .ty "bool") (by rfl) T.n_bool (by decide +kernel) rfl) pa_nil))) (nomark _)))))))))) ?_ h
  rintro t G M vs hp ha
  obtain ⟨v1, rfl, h1⟩ := als1 ha
  cases (show v1 = _ from h1)
  refine q_set (Ev.asD (ec_P1 (ea_cons (ev_varV rfl) ea_nil) hp) (due_is hp)) fun v1 G1 e1 h_due => ?_
  refine q_set (ec_P1 (ea_cons (ev_varV rfl) ea_nil) hp) fun v2 G2 e2 h_found => ?_
  replace h_due := Pr.m _ e2 h_due
  cases ho : ruleBy t with
  | none =>
    rw [ho] at h_due h_found
    refine q_when (et_or (b := true) (et_test (ev_isNb (ev_var rfl h_due) isNone_h)) (fun hb => by cases hb)) (fun _ => ?_) (fun hc => by cases hc)
    refine s_ret (ev_andV (ev_isNb (ev_var rfl h_due) isNone_h) (fun _ => (ev_isNb (ev_var rfl h_found) isNone_h))) fun v G3 e3 hv => ?_
    exact ⟨⟨[], List.Perm.refl _⟩, hv⟩
  | some r =>
    rw [ho] at h_due h_found
    have hs := enc_sh (by_V ho)
    refine q_when (et_or (et_test (ev_isNb (ev_var rfl h_due) isNone_h)) (fun _ => et_test (ev_isNb (ev_var rfl h_found) isNone_h))) (fun hc => by cases hc) (fun _ => ?_)
    refine s_ret (ev_andV (ev_isiD (ev_var rfl h_found)) (fun _ => ev_andV (ev_eqD (ev_var rfl h_found) (ev_var rfl h_due) hs.1 hs.1) (fun _ => ev_eq (ev_isiD (ev_ixT (Ev.vT (ds := [_, _, _, _]) (ev_var rfl h_found)) ev_c rfl)) (ev_isiD (ev_ixT (Ev.vT (ds := [_, _, _, _]) (ev_var rfl h_due)) ev_c rfl)) rfl))) fun v G3 e3 hv => ?_
    change (pB (isTy "tuple" r.enc && (PyData.eqv r.enc r.enc && decide (V.bl (isTy "bool" r.d) = V.bl (isTy "bool" r.d))))).h v G3 at hv
    rw [hs.2, decide_eq_true rfl] at hv
    exact ⟨⟨[], List.Perm.refl _⟩, hv⟩
theorem sc_law : FnScope ["_law_script", "_law_cell", "_law_row", "_law_text", "_law_way", "_law_k"] ["_law_script"] (defScope (top 43)) := ⟨rfl, rfl, rfl, by decide +kernel, rfl, by decide +kernel, by decide +kernel⟩
theorem ok_law (T : Tx K mg) (c_law_begin : C8.Cal P w K mg base 1 "_law_begin" spBegin []) (c_law_take : C8.Cal P w K mg base 1 "_law_take" spTake []) (c_law_rule : C8.Cal P w K mg base 4 "_law_rule" (spRule K) []) (c_rule_text : C8.Cal P w K mg base 2 "rule_text" (spRText K) []) (c_law_odd : C8.Cal P w K mg base 2 "_law_odd" spOdd []) (c_law_bent : C8.Cal P w K mg base 3 "_law_bent" spBent []) (c_law_right : C8.Cal P w K mg base 7 "_law_right" spRight []) {f : Addr} {fd : FuncData} (F : FnP K "law" "law" (top 43) f fd) : FnOk P w K mg base CX0 8 f fd ["_law_script"] (spLaw K) := by
  refine F.ok sc_law (lenP1 fun _ => rfl) (fun cdv A outer s H vs Q E hr h => ?_)
  skip
  refine bodyP1 (pss_cons (ps_for PassesOwn.never rfl (pi_list (pe_op op_cat (pe_lst (pa_cons pe_int pa_nil)) (pe_slice sl_list (pv 0) po_none (po_some pe_int)))) (pg_name (i := 1) sc_law.nd rfl (by first | exact Or.inl rfl | exact Or.inr rfl))
        (pss_cons (ps_set (i := 2) sc_law.nd rfl (by first | exact Or.inl rfl | exact Or.inr rfl) (C8.pe_c c_law_begin hr (by decide) (by rfl) (pa_cons (pv 1) pa_nil)))
        (pss_cons (ps_set (i := 3) sc_law.nd rfl (by first | exact Or.inl rfl | exact Or.inr rfl) (C8.pe_c c_rule_text hr (by decide) (by rfl) (pa_cons (C8.pe_c c_law_rule hr (by decide) (by rfl) (pa_cons (pv 2) (pa_cons (pe_ix ix_list (pe_lst (pa_cons pe_int (pa_cons pe_int (pa_cons pe_int (pa_cons (pe_op op_pow pe_int pe_int) pa_nil))))) (C8.pe_c c_law_take hr (by decide) (by rfl) (pa_cons (pv 2) (pa_cons pe_int pa_nil))) (fun _ _ => rfl)) pa_nil))) pa_nil)))
        (pss_cons (ps_set (i := 4) sc_law.nd rfl (by first | exact Or.inl rfl | exact Or.inr rfl) (C8.pe_c c_law_take hr (by decide) (by rfl) (pa_cons (pv 2) (pa_cons pe_int pa_nil))))
        (pss_cons (ps_if (pt_cmpR op_eq (pv 4) pe_int (nomark _)) (pss_one (ps_set (i := 3) sc_law.nd rfl (by first | exact Or.inl rfl | exact Or.inr rfl) (pe_op op_add_str (pe_op op_add_str (pv 3) (pe_ix ix_list (pe_lst (pa_cons pe_str (pa_cons pe_str pa_nil))) (C8.pe_c c_law_take hr (by decide) (by rfl) (pa_cons (pv 2) (pa_cons pe_int pa_nil))) (fun _ _ => rfl))) (C8.pe_c c_rule_text hr (by decide) (by rfl) (pa_cons (C8.pe_c c_law_rule hr (by decide) (by rfl) (pa_cons (pv 2) (pa_cons pe_int pa_nil))) pa_nil))))) (pss_one (ps_if (pt_cmpR op_eq (pv 4) pe_int (nomark _)) (pss_one (ps_set (i := 3) sc_law.nd rfl (by first | exact Or.inl rfl | exact Or.inr rfl) (pe_join pe_str (pe_lc (own := [("_law_k", 5)]) (g := (gName 5)) (by rfl) sc_law.nd (pi_range1 (by rfl) T.n_range (pa_cons (C8.pe_c c_law_take hr (by decide) (by rfl) (pa_cons (pv 2) (pa_cons pe_int pa_nil))) pa_nil)) (blkOk_by (own := [("_law_k", 5)]) (N := ["_law_script", "_law_cell", "_law_row", "_law_text", "_law_way", "_law_k"]) (sc := defScope (top 43)) (by decide +kernel)) (fun _ _ _ _ _ => (pg_name (i := 5) sc_law.nd rfl (by first | exact Or.inl rfl | exact Or.inr rfl))) (fun _ _ _ _ _ => pts_nil) (fun _ _ _ _ _ => (C8.pe_c c_law_odd hr (by decide) (by rfl) (pa_cons (pv 2) pa_nil))))))) (pss_one (ps_set (i := 3) sc_law.nd rfl (by first | exact Or.inl rfl | exact Or.inr rfl) (C8.pe_c c_law_bent hr (by decide) (by rfl) (pa_cons (pv 2) (pa_cons (pv 3) pa_nil))))))))
        (pss_one (ps_if (PW.pt (pw_or (pt_not (pt_val (C8.pe_c c_law_right hr (by decide) (by rfl) (pa_cons (pv 3) pa_nil)))) (pw_or1 (pt_not (pt_val (C8.pe_c c_law_right hr (by decide) (by rfl) (pa_cons (pv 3) pa_nil))))))) (pss_one (ps_ret pe_bl)) pss_nil)))))))
        (pss_one (ps_ret (pe_and (C8.pe_c c_law_right hr (by decide) (by rfl) (pa_cons pe_str pa_nil)) (pe_and (C8.pe_c c_law_right hr (by decide) (by rfl) (pa_cons pe_str pa_nil)) (pe_one (C8.pe_c c_law_right hr (by decide) (by rfl) (pa_cons pe_str pa_nil)))))))) ?_ h
  rintro ns G M vs hp ha
  obtain ⟨v1, rfl, h1⟩ := als1 ha
  have h__law_script := h1
  refine q_forW (fun j σ' G' M' => (∃ X, M' = X ++ M) ∧ ∃ a b c d e, σ' = [some v1, a, b, c, d, e]) (iw_list (EvO.keep (eo_cat (EvO.keep (eo_lst (ea_cons ev_c ea_nil))) (EvO.keep (eo_slQ (ev_var rfl h__law_script) eb_none (eb_some ev_c))) (cells_len hp)))) (fun G1 e1 => ⟨⟨[], rfl⟩, _, _, _, _, _, rfl⟩) ?_ ?_
  · rintro j p σ' Gi G' M' eA eB hpj ⟨⟨X, rfl⟩, a, b, c, d, e, rfl⟩
    obtain ⟨n, rfl⟩ := cells_at hpj
    refine ag_nameV ?_
    refine q_setO (EvO.is (ec_N1 (ea_cons (ev_varV rfl) ea_nil) trivial) rfl) fun pr => ?_
    refine q_setV (ec_P1 (ea_cons (ec_M3 (ea_cons (ev_varV rfl) (ea_cons (ev_ixOI [_, _, _, _] (eo_lst (ea_cons ev_c (ea_cons ev_c (ea_cons ev_c (ea_cons (ev_powC (r := 1000000)) ea_nil))))) (ec_M3 (ea_cons (ev_varV rfl) (ea_cons ev_c ea_nil)) ⟨by decide, by decide⟩) 4 (take_lo _ (by decide)) (take_hi _ (by decide))) ea_nil)) trivial) ea_nil) (rulV_ok (draw_V _ _))) ?_
    refine q_setV (ec_M3 (ea_cons (ev_varV rfl) (ea_cons ev_c ea_nil)) ⟨by decide, by decide⟩) ?_
    generalize take (ruleR (takeR (beginR n) 4)) 12 = wy
    generalize takeR (ruleR (takeR (beginR n) 4)) 12 = r1
    have h0 := draw_text (takeR (beginR n) 4) ([0, 40, 999990, 1000000].getD (take (beginR n) 4).toNat 0)
    generalize ruleText (ruleV (takeR (beginR n) 4) ([0, 40, 999990, 1000000].getD (take (beginR n) 4).toNat 0)) = t0 at h0 ⊢
    have tail : ∀ {t : Str} {G2 : Hp} {r : Dr.Row} {x : Option V}, okS t → Sm (tIfS (tOr (tNot (tB (tCall spRight [] C8.E0 (tCons (tVar 3) tNil)))) (tNot (tB (tCall spRight [] C8.E0 (tCons (tVar 3) tNil))))) (tRet (tC (.bl false))) tNext) [some v1, some (.int n), some (.ref pr), some (.str t), some (.int wy), x] G2 ((pr, cRow r) :: (X ++ M)) { nx := fun σ' G' M' => (∃ X, M' = X ++ M) ∧ ∃ a b c d e, σ' = [some v1, a, b, c, d, e], rt := (OutR M (pB true)).rt, bk := fun σ3 G3 M3 => Sm (tRet (tAndV (tCall spRight [] C8.E0 (tCons (tC (.str "")) tNil)) (tAndV (tCall spRight [] C8.E0 (tCons (tC (.str "price 0 0 0")) tNil)) (tCall spRight [] C8.E0 (tCons (tC (.str "deal 0 1000000 14 13")) tNil))))) σ3 G3 M3 (OutR M (pB true)), ct := fun σ' G' M' => (∃ X, M' = X ++ M) ∧ ∃ a b c d e, σ' = [some v1, a, b, c, d, e] } := fun {t G2 r x} ht =>
      s_when (et_or (et_not (et_B (ec_P1 (ea_cons (ev_varV rfl) ea_nil) ht))) (fun _ => et_not (et_B (ec_P1 (ea_cons (ev_varV rfl) ea_nil) ht)))) (fun hc => absurd hc (by decide)) (fun _ G9 e9 => ⟨⟨_ :: X, rfl⟩, _, _, _, _, _, rfl⟩)
    refine q_if (et_test (ev_eq (ev_varV rfl) ev_c rfl)) (fun _ => ?_) (fun _ => s_if (et_test (ev_eq (ev_varV rfl) ev_c rfl)) (fun _ => ?_) (fun _ => ?_))
    · have hx := blank_ok _ (getD_mem (l := [Str.ofString " ", Str.ofString ""]) (i := (take r1 2).toNat) (d := Str.empty) (by have := take_lo r1 (b := 2) (by decide); have := take_hi r1 (b := 2) (by decide); show _ < 2; omega))
      have h1 := draw_text (takeR r1 2) 7
      refine s_set (ev_addS (ev_addS (ev_varV rfl) (ev_ixOS [Str.ofString " ", Str.ofString ""] (eo_lst (ea_cons ev_c (ea_cons ev_c ea_nil))) (ec_M3 (ea_cons (ev_varV rfl) (ea_cons ev_c ea_nil)) ⟨by decide, by decide⟩) 2 (take_lo _ (by decide)) (take_hi _ (by decide))) (by have := h0.1; have := hx.1; show _ ≤ 2 ^ 24; omega)) (ec_P1 (ea_cons (ec_M3 (ea_cons (ev_varV rfl) (ea_cons ev_c ea_nil)) trivial) ea_nil) (rulV_ok (draw_V _ _))) (by rw [Str.length_append]; have := h0.1; have := hx.1; have := h1.1; show _ ≤ 2 ^ 24; omega)) fun v G3 e3 hv => ?_
      cases (show v = .str _ from hv)
      exact tail (two_ok h0 hx h1)
    · have hn : take r1 6 < 6 := take_hi _ (by decide)
      have hn0 : 0 ≤ take r1 6 := take_lo _ (by decide)
      have hw := oddWs_ok (r := takeR r1 6) (n := (take r1 6).toNat) (by omega)
      refine s_set (ev_join (s := SP) (ys := oddWs (takeR r1 6) (take r1 6).toNat) ev_c (EvO.keep (EvO.is (eo_lcR (fun j => (pr, cRow (oddN (takeR r1 6) j)) :: (X ++ M)) (fun j => pS (oddV (oddN (takeR r1 6) j))) (n := take r1 6) (ec_M3 (ea_cons (ev_varV rfl) (ea_cons ev_c ea_nil)) ⟨by decide, by decide⟩) (by omega) (fun j G3 e3 hj => ag_nameV ⟨rfl, fun Dl c => Ev.sw (ec_M2 (ea_cons (ev_varV rfl) ea_nil) trivial)⟩) (by omega)) (oddWs_map _ _))) (join_sz hw (by decide))) fun v G3 e3 hv => ?_
      cases (show v = .str _ from hv)
      exact tail (join_ok hw (by decide))
    · refine s_setX (a := (pr, r1, t0)) (ea_cons (ev_varV rfl) (ea_cons (ev_varV rfl) ea_nil)) (show okB t0 from ⟨Nat.le_trans h0.1 (by decide), h0.2⟩) fun i v G3 hi e3 hv => ?_
      cases (show v = .str i.2 from hv)
      exact tail hi
  · rintro σ' G' M' eA ⟨⟨X, rfl⟩, a, b, c, d, e, rfl⟩
    refine s_ret (ev_andV (a := true) (ec_P1 (ea_cons ev_c ea_nil) okS_a) (fun _ => ev_andV (a := true) (ec_P1 (ea_cons ev_c ea_nil) okS_b) (fun _ => (ec_P1 (ea_cons ev_c ea_nil) okS_c)))) fun v G3 e3 hv => ?_
    exact ⟨⟨X, List.Perm.refl _⟩, hv⟩
end W
namespace Hd
open PySem PySem.Spec PyProof.Rows L2
def top (i : Nat) : Stmt := PySem.Challenge.pw_stayprice_k22_texts_of_no_rule.main.body.getD i (.Pass ⟨0, 0, 0, 0⟩)
def mk (at_ : Str × Option Str) (n q : Str) (s : Stmt) : He.DefD := ⟨at_, n, q, defArgs s, defBody s, defScope s, [], []⟩
def fn0 : List He.DefD := [mk ("is_whole", none) "is_whole" "is_whole" (top 3), mk ("is_day", none) "is_day" "is_day" (top 4), mk ("is_two_days", none) "is_two_days" "is_two_days" (top 5), mk ("is_stretch", none) "is_stretch" "is_stretch" (top 6), mk ("is_coins", none) "is_coins" "is_coins" (top 10), mk ("is_nights", none) "is_nights" "is_nights" (top 11), mk ("made", none) "made" "made" (top 20), mk ("rule_of", none) "rule_of" "rule_of" (top 21), mk ("worth_text", none) "worth_text" "worth_text" (top 24), mk ("rule_text", none) "rule_text" "rule_text" (top 25), mk ("number_by", none) "number_by" "number_by" (top 26), mk ("worths_by", none) "worths_by" "worths_by" (top 27), mk ("rule_by", none) "rule_by" "rule_by" (top 28), mk ("_law_begin", none) "_law_begin" "_law_begin" (top 31), mk ("_law_take", none) "_law_take" "_law_take" (top 32)]
def fn1 : List He.DefD := [mk ("_law_coins", none) "_law_coins" "_law_coins" (top 33), mk ("_law_worth", none) "_law_worth" "_law_worth" (top 34), mk ("_law_rule", none) "_law_rule" "_law_rule" (top 35), mk ("_law_number", none) "_law_number" "_law_number" (top 36), mk ("_law_pair", none) "_law_pair" "_law_pair" (top 37), mk ("_law_worth_by", none) "_law_worth_by" "_law_worth_by" (top 38), mk ("_law_due", none) "_law_due" "_law_due" (top 39), mk ("_law_odd", none) "_law_odd" "_law_odd" (top 40), mk ("_law_bent", none) "_law_bent" "_law_bent" (top 41), mk ("_law_right", none) "_law_right" "_law_right" (top 42), mk ("law", none) "law" "law" (top 43), mk ("Price", some "__init__") "__init__" "Rule.__init__" (inClass (top 12) 0), mk ("Price", some "word") "word" "Price.word" (inClass (top 13) 0), mk ("Price", some "fits") "fits" "Price.fits" (inClass (top 13) 1), mk ("Price", some "told") "told" "Rule.told" (inClass (top 12) 4)]
def fn2 : List He.DefD := [mk ("Come", some "__init__") "__init__" "Rule.__init__" (inClass (top 12) 0), mk ("Come", some "word") "word" "Come.word" (inClass (top 14) 0), mk ("Come", some "fits") "fits" "Come.fits" (inClass (top 14) 1), mk ("Come", some "told") "told" "Rule.told" (inClass (top 12) 4), mk ("Go", some "__init__") "__init__" "Rule.__init__" (inClass (top 12) 0), mk ("Go", some "word") "word" "Go.word" (inClass (top 15) 0), mk ("Go", some "fits") "fits" "Go.fits" (inClass (top 15) 1), mk ("Go", some "told") "told" "Rule.told" (inClass (top 12) 4), mk ("Least", some "__init__") "__init__" "Rule.__init__" (inClass (top 12) 0), mk ("Least", some "word") "word" "Least.word" (inClass (top 16) 0), mk ("Least", some "fits") "fits" "Least.fits" (inClass (top 16) 1), mk ("Least", some "told") "told" "Rule.told" (inClass (top 12) 4), mk ("Most", some "__init__") "__init__" "Rule.__init__" (inClass (top 12) 0), mk ("Most", some "word") "word" "Most.word" (inClass (top 17) 0), mk ("Most", some "fits") "fits" "Most.fits" (inClass (top 17) 1)]
def fn3 : List He.DefD := [mk ("Most", some "told") "told" "Rule.told" (inClass (top 12) 4), mk ("Deal", some "__init__") "__init__" "Rule.__init__" (inClass (top 12) 0), mk ("Deal", some "word") "word" "Deal.word" (inClass (top 18) 0), mk ("Deal", some "fits") "fits" "Deal.fits" (inClass (top 18) 1), mk ("Deal", some "told") "told" "Rule.told" (inClass (top 12) 4), mk ("Fee", some "__init__") "__init__" "Rule.__init__" (inClass (top 12) 0), mk ("Fee", some "word") "word" "Fee.word" (inClass (top 19) 0), mk ("Fee", some "fits") "fits" "Fee.fits" (inClass (top 19) 1), mk ("Fee", some "told") "told" "Rule.told" (inClass (top 12) 4)]
def fn : List He.DefD := fn0 ++ fn1 ++ fn2 ++ fn3
def fa0 : List He.Fa := [.glo "is_whole", .glo "is_day", .glo "is_two_days", .glo "is_stretch", .glo "is_coins", .glo "is_nights", .glo "made", .glo "rule_of", .glo "worth_text", .glo "rule_text", .glo "number_by", .glo "worths_by", .glo "rule_by", .glo "_law_begin", .glo "_law_take"]
def fa1 : List He.Fa := [.glo "_law_coins", .glo "_law_worth", .glo "_law_rule", .glo "_law_number", .glo "_law_pair", .glo "_law_worth_by", .glo "_law_due", .glo "_law_odd", .glo "_law_bent", .glo "_law_right", .glo "law", .glo "Price", .glo "Come", .glo "Go", .glo "Least"]
def fa2 : List He.Fa := [.glo "Most", .glo "Deal", .glo "Fee", .str "FIGURES" "0123456789", .int "LAST_DAY" 1000000, .int "MOST_COINS" 1000000000000, .int "MOST_NIGHTS" 14, .glo "WORDS", .free "all", .free "bool", .free "int", .free "isinstance", .free "len", .free "max", .free "min"]
def fa3 : List He.Fa := [.free "range", .free "str", .free "tuple", .cls "Price", .mkr "Price", .noat "Price" "first", .noat "Price" "last", .noat "Price" "worth", .cls "Come", .mkr "Come", .noat "Come" "first", .noat "Come" "last", .noat "Come" "worth", .cls "Go", .mkr "Go"]
def fa4 : List He.Fa := [.noat "Go" "first", .noat "Go" "last", .noat "Go" "worth", .cls "Least", .mkr "Least", .noat "Least" "first", .noat "Least" "last", .noat "Least" "worth", .cls "Most", .mkr "Most", .noat "Most" "first", .noat "Most" "last", .noat "Most" "worth", .cls "Deal", .mkr "Deal"]
def fa5 : List He.Fa := [.noat "Deal" "first", .noat "Deal" "last", .noat "Deal" "worth", .cls "Fee", .mkr "Fee", .noat "Fee" "first", .noat "Fee" "last", .noat "Fee" "worth", .meth "Price" "word", .meth "Price" "fits", .meth "Price" "told", .meth "Come" "word", .meth "Come" "fits", .meth "Come" "told", .meth "Go" "word"]
def fa6 : List He.Fa := [.meth "Go" "fits", .meth "Go" "told", .meth "Least" "word", .meth "Least" "fits", .meth "Least" "told", .meth "Most" "word", .meth "Most" "fits", .meth "Most" "told", .meth "Deal" "word", .meth "Deal" "fits", .meth "Deal" "told", .meth "Fee" "word", .meth "Fee" "fits", .meth "Fee" "told"]
def fa : List He.Fa := fa0 ++ fa1 ++ fa2 ++ fa3 ++ fa4 ++ fa5 ++ fa6
def ex (K : PySem.W.Frag) : Bool := He.tupB K "WORDS" [.str "price", .str "come", .str "go", .str "least", .str "most", .str "deal", .str "fee"]
abbrev R : PySem.W.OpenRow := PySem.W.OpenLaw.row PySem.Challenge.rw_stayprice_k22_texts_of_no_rule
abbrev hk : PySem.W.Hook := He.hookX 5 fa fn [] [] ex
def ob (s : PySem.W.SharedT) : He.AlX := He.obsX 5 fa fn [] [] ex (HandSHeadRun.getT s)
theorem ob_eq (s : PySem.W.SharedT) : ob s = hk.obs s.abs := He.obsX_eq (HandSHeadRun.getT_eq s)
def nms0 : List Str := ["LAST_DAY", "MOST_NIGHTS", "is_whole", "is_day", "is_two_days", "is_stretch", "WORDS", "MOST_COINS", "is_coins", "is_nights", "Rule", "Price", "Come", "Go", "Least"]
def nms1 : List Str := ["Most", "Deal", "Fee", "made", "rule_of", "FIGURES", "worth_text", "rule_text", "number_by", "worths_by", "rule_by", "_law_cell_at", "_law_begin", "_law_take", "_law_coins"]
def nms2 : List Str := ["_law_worth", "_law_rule", "_law_number", "_law_pair", "_law_worth_by", "_law_due", "_law_odd", "_law_bent", "_law_right"]
def nms : List Str := nms0 ++ nms1 ++ nms2
theorem run (w : World) : HandSHeadRun.RunEq R (PySem.W.view R.prog [43]) hk ob 3600 nms w := by
  intro os
  kernel_rfl
end Hd
namespace As
open PySem PySem.Spec L2 Sg Dr Pm
theorem facts {P : Program} {w : World} {K : PySem.W.Frag} {h : Heap} {mg : Str → Option Value} {f : Addr} (X : K.In h) (G : h.Ns mainGlobals mg) (hfa : mg ("law" : Str) = some (.ref f)) (c : He.SaysX Hd.fa Hd.fn [] [] Hd.ex w h K) :
    ∃ fd : FuncData, (∀ (s : Shared) (v : Value), BindsTo s fd ⟨[v], []⟩ [("_law_script", v)]) ∧ ∀ base : Heap, FnOk P w K mg base CX0 8 f fd ["_law_script"] (spLaw K) := by
  have cD := c.t.d
  have T : W.Tx K mg := {
    cl := fun w hw => by
      rcases words_cases hw with rfl | rfl | rfl | rfl | rfl | rfl | rfl
      · exact cAd_price ▸ He.cls_ok (cD.fact 48 (f := .cls "Price") rfl)
      · exact cAd_come ▸ He.cls_ok (cD.fact 53 (f := .cls "Come") rfl)
      · exact cAd_go ▸ He.cls_ok (cD.fact 58 (f := .cls "Go") rfl)
      · exact cAd_least ▸ He.cls_ok (cD.fact 63 (f := .cls "Least") rfl)
      · exact cAd_most ▸ He.cls_ok (cD.fact 68 (f := .cls "Most") rfl)
      · exact cAd_deal ▸ He.cls_ok (cD.fact 73 (f := .cls "Deal") rfl)
      · exact cAd_fee ▸ He.cls_ok (cD.fact 78 (f := .cls "Fee") rfl)
    na_first := fun w hw => by
      rcases words_cases hw with rfl | rfl | rfl | rfl | rfl | rfl | rfl
      · exact cAd_price ▸ He.noat_ok (cD.fact 50 (f := .noat "Price" "first") rfl)
      · exact cAd_come ▸ He.noat_ok (cD.fact 55 (f := .noat "Come" "first") rfl)
      · exact cAd_go ▸ He.noat_ok (cD.fact 60 (f := .noat "Go" "first") rfl)
      · exact cAd_least ▸ He.noat_ok (cD.fact 65 (f := .noat "Least" "first") rfl)
      · exact cAd_most ▸ He.noat_ok (cD.fact 70 (f := .noat "Most" "first") rfl)
      · exact cAd_deal ▸ He.noat_ok (cD.fact 75 (f := .noat "Deal" "first") rfl)
      · exact cAd_fee ▸ He.noat_ok (cD.fact 80 (f := .noat "Fee" "first") rfl)
    na_last := fun w hw => by
      rcases words_cases hw with rfl | rfl | rfl | rfl | rfl | rfl | rfl
      · exact cAd_price ▸ He.noat_ok (cD.fact 51 (f := .noat "Price" "last") rfl)
      · exact cAd_come ▸ He.noat_ok (cD.fact 56 (f := .noat "Come" "last") rfl)
      · exact cAd_go ▸ He.noat_ok (cD.fact 61 (f := .noat "Go" "last") rfl)
      · exact cAd_least ▸ He.noat_ok (cD.fact 66 (f := .noat "Least" "last") rfl)
      · exact cAd_most ▸ He.noat_ok (cD.fact 71 (f := .noat "Most" "last") rfl)
      · exact cAd_deal ▸ He.noat_ok (cD.fact 76 (f := .noat "Deal" "last") rfl)
      · exact cAd_fee ▸ He.noat_ok (cD.fact 81 (f := .noat "Fee" "last") rfl)
    na_worth := fun w hw => by
      rcases words_cases hw with rfl | rfl | rfl | rfl | rfl | rfl | rfl
      · exact cAd_price ▸ He.noat_ok (cD.fact 52 (f := .noat "Price" "worth") rfl)
      · exact cAd_come ▸ He.noat_ok (cD.fact 57 (f := .noat "Come" "worth") rfl)
      · exact cAd_go ▸ He.noat_ok (cD.fact 62 (f := .noat "Go" "worth") rfl)
      · exact cAd_least ▸ He.noat_ok (cD.fact 67 (f := .noat "Least" "worth") rfl)
      · exact cAd_most ▸ He.noat_ok (cD.fact 72 (f := .noat "Most" "worth") rfl)
      · exact cAd_deal ▸ He.noat_ok (cD.fact 77 (f := .noat "Deal" "worth") rfl)
      · exact cAd_fee ▸ He.noat_ok (cD.fact 82 (f := .noat "Fee" "worth") rfl)
    m_FIGURES := (He.str_ok X G (cD.fact 33 (f := .str "FIGURES" "0123456789") rfl)).elim fun t e => ⟨_, e, t, rfl⟩
    m_LAST_DAY := (He.int_ok X G (cD.fact 34 (f := .int "LAST_DAY" 1000000) rfl)).elim fun t e => ⟨_, e, t, rfl⟩
    m_MOST_COINS := (He.int_ok X G (cD.fact 35 (f := .int "MOST_COINS" 1000000000000) rfl)).elim fun t e => ⟨_, e, t, rfl⟩
    m_MOST_NIGHTS := (He.int_ok X G (cD.fact 36 (f := .int "MOST_NIGHTS" 14) rfl)).elim fun t e => ⟨_, e, t, rfl⟩
    m_WORDS := He.glo_ok X G (cD.fact 37 (f := .glo "WORDS") rfl)
    n_all := He.free_ok X G (cD.fact 38 (f := .free "all") rfl)
    n_bool := He.free_ok X G (cD.fact 39 (f := .free "bool") rfl)
    n_int := He.free_ok X G (cD.fact 40 (f := .free "int") rfl)
    n_isinstance := He.free_ok X G (cD.fact 41 (f := .free "isinstance") rfl)
    n_len := He.free_ok X G (cD.fact 42 (f := .free "len") rfl)
    n_max := He.free_ok X G (cD.fact 43 (f := .free "max") rfl)
    n_min := He.free_ok X G (cD.fact 44 (f := .free "min") rfl)
    n_range := He.free_ok X G (cD.fact 45 (f := .free "range") rfl)
    n_str := He.free_ok X G (cD.fact 46 (f := .free "str") rfl)
    n_tuple := He.free_ok X G (cD.fact 47 (f := .free "tuple") rfl)
    p_WORDS := fun G => ⟨_, _, rfl, He.tupB_ok (x := "WORDS") (vs := [.str "price", .str "come", .str "go", .str "least", .str "most", .str "deal", .str "fee"]) c.more G, als_pV _⟩ }
  obtain ⟨d_is_whole, F_is_whole⟩ : ∃ fd, W.FnP K "is_whole" "is_whole" (W.top 3) (He.ga K "is_whole") fd := cD.def_ 0 rfl
  obtain ⟨d_is_day, F_is_day⟩ : ∃ fd, W.FnP K "is_day" "is_day" (W.top 4) (He.ga K "is_day") fd := cD.def_ 1 rfl
  obtain ⟨d_is_two_days, F_is_two_days⟩ : ∃ fd, W.FnP K "is_two_days" "is_two_days" (W.top 5) (He.ga K "is_two_days") fd := cD.def_ 2 rfl
  obtain ⟨d_is_stretch, F_is_stretch⟩ : ∃ fd, W.FnP K "is_stretch" "is_stretch" (W.top 6) (He.ga K "is_stretch") fd := cD.def_ 3 rfl
  obtain ⟨d_is_coins, F_is_coins⟩ : ∃ fd, W.FnP K "is_coins" "is_coins" (W.top 10) (He.ga K "is_coins") fd := cD.def_ 4 rfl
  obtain ⟨d_is_nights, F_is_nights⟩ : ∃ fd, W.FnP K "is_nights" "is_nights" (W.top 11) (He.ga K "is_nights") fd := cD.def_ 5 rfl
  obtain ⟨d_made, F_made⟩ : ∃ fd, W.FnP K "made" "made" (W.top 20) (He.ga K "made") fd := cD.def_ 6 rfl
  obtain ⟨d_rule_of, F_rule_of⟩ : ∃ fd, W.FnP K "rule_of" "rule_of" (W.top 21) (He.ga K "rule_of") fd := cD.def_ 7 rfl
  obtain ⟨d_worth_text, F_worth_text⟩ : ∃ fd, W.FnP K "worth_text" "worth_text" (W.top 24) (He.ga K "worth_text") fd := cD.def_ 8 rfl
  obtain ⟨d_rule_text, F_rule_text⟩ : ∃ fd, W.FnP K "rule_text" "rule_text" (W.top 25) (He.ga K "rule_text") fd := cD.def_ 9 rfl
  obtain ⟨d_number_by, F_number_by⟩ : ∃ fd, W.FnP K "number_by" "number_by" (W.top 26) (He.ga K "number_by") fd := cD.def_ 10 rfl
  obtain ⟨d_worths_by, F_worths_by⟩ : ∃ fd, W.FnP K "worths_by" "worths_by" (W.top 27) (He.ga K "worths_by") fd := cD.def_ 11 rfl
  obtain ⟨d_rule_by, F_rule_by⟩ : ∃ fd, W.FnP K "rule_by" "rule_by" (W.top 28) (He.ga K "rule_by") fd := cD.def_ 12 rfl
  obtain ⟨d_law_begin, F_law_begin⟩ : ∃ fd, W.FnP K "_law_begin" "_law_begin" (W.top 31) (He.ga K "_law_begin") fd := cD.def_ 13 rfl
  obtain ⟨d_law_take, F_law_take⟩ : ∃ fd, W.FnP K "_law_take" "_law_take" (W.top 32) (He.ga K "_law_take") fd := cD.def_ 14 rfl
  obtain ⟨d_law_coins, F_law_coins⟩ : ∃ fd, W.FnP K "_law_coins" "_law_coins" (W.top 33) (He.ga K "_law_coins") fd := cD.def_ 15 rfl
  obtain ⟨d_law_worth, F_law_worth⟩ : ∃ fd, W.FnP K "_law_worth" "_law_worth" (W.top 34) (He.ga K "_law_worth") fd := cD.def_ 16 rfl
  obtain ⟨d_law_rule, F_law_rule⟩ : ∃ fd, W.FnP K "_law_rule" "_law_rule" (W.top 35) (He.ga K "_law_rule") fd := cD.def_ 17 rfl
  obtain ⟨d_law_number, F_law_number⟩ : ∃ fd, W.FnP K "_law_number" "_law_number" (W.top 36) (He.ga K "_law_number") fd := cD.def_ 18 rfl
  obtain ⟨d_law_pair, F_law_pair⟩ : ∃ fd, W.FnP K "_law_pair" "_law_pair" (W.top 37) (He.ga K "_law_pair") fd := cD.def_ 19 rfl
  obtain ⟨d_law_worth_by, F_law_worth_by⟩ : ∃ fd, W.FnP K "_law_worth_by" "_law_worth_by" (W.top 38) (He.ga K "_law_worth_by") fd := cD.def_ 20 rfl
  obtain ⟨d_law_due, F_law_due⟩ : ∃ fd, W.FnP K "_law_due" "_law_due" (W.top 39) (He.ga K "_law_due") fd := cD.def_ 21 rfl
  obtain ⟨d_law_odd, F_law_odd⟩ : ∃ fd, W.FnP K "_law_odd" "_law_odd" (W.top 40) (He.ga K "_law_odd") fd := cD.def_ 22 rfl
  obtain ⟨d_law_bent, F_law_bent⟩ : ∃ fd, W.FnP K "_law_bent" "_law_bent" (W.top 41) (He.ga K "_law_bent") fd := cD.def_ 23 rfl
  obtain ⟨d_law_right, F_law_right⟩ : ∃ fd, W.FnP K "_law_right" "_law_right" (W.top 42) (He.ga K "_law_right") fd := cD.def_ 24 rfl
  obtain ⟨d_law, F_law⟩ : ∃ fd, W.FnP K "law" "law" (W.top 43) (He.ga K "law") fd := cD.def_ 25 rfl
  obtain ⟨d_Price___init, F_Price___init⟩ : ∃ fd, W.FnP K "__init__" "Rule.__init__" (inClass (W.top 12) 0) (He.ma K (He.ga K "Price") "__init__") fd := cD.def_ 26 rfl
  obtain ⟨d_Price_word, F_Price_word⟩ : ∃ fd, W.FnP K "word" "Price.word" (inClass (W.top 13) 0) (He.ma K (He.ga K "Price") "word") fd := cD.def_ 27 rfl
  obtain ⟨d_Price_fits, F_Price_fits⟩ : ∃ fd, W.FnP K "fits" "Price.fits" (inClass (W.top 13) 1) (He.ma K (He.ga K "Price") "fits") fd := cD.def_ 28 rfl
  obtain ⟨d_Price_told, F_Price_told⟩ : ∃ fd, W.FnP K "told" "Rule.told" (inClass (W.top 12) 4) (He.ma K (He.ga K "Price") "told") fd := cD.def_ 29 rfl
  obtain ⟨d_Come___init, F_Come___init⟩ : ∃ fd, W.FnP K "__init__" "Rule.__init__" (inClass (W.top 12) 0) (He.ma K (He.ga K "Come") "__init__") fd := cD.def_ 30 rfl
  obtain ⟨d_Come_word, F_Come_word⟩ : ∃ fd, W.FnP K "word" "Come.word" (inClass (W.top 14) 0) (He.ma K (He.ga K "Come") "word") fd := cD.def_ 31 rfl
  obtain ⟨d_Come_fits, F_Come_fits⟩ : ∃ fd, W.FnP K "fits" "Come.fits" (inClass (W.top 14) 1) (He.ma K (He.ga K "Come") "fits") fd := cD.def_ 32 rfl
  obtain ⟨d_Come_told, F_Come_told⟩ : ∃ fd, W.FnP K "told" "Rule.told" (inClass (W.top 12) 4) (He.ma K (He.ga K "Come") "told") fd := cD.def_ 33 rfl
  obtain ⟨d_Go___init, F_Go___init⟩ : ∃ fd, W.FnP K "__init__" "Rule.__init__" (inClass (W.top 12) 0) (He.ma K (He.ga K "Go") "__init__") fd := cD.def_ 34 rfl
  obtain ⟨d_Go_word, F_Go_word⟩ : ∃ fd, W.FnP K "word" "Go.word" (inClass (W.top 15) 0) (He.ma K (He.ga K "Go") "word") fd := cD.def_ 35 rfl
  obtain ⟨d_Go_fits, F_Go_fits⟩ : ∃ fd, W.FnP K "fits" "Go.fits" (inClass (W.top 15) 1) (He.ma K (He.ga K "Go") "fits") fd := cD.def_ 36 rfl
  obtain ⟨d_Go_told, F_Go_told⟩ : ∃ fd, W.FnP K "told" "Rule.told" (inClass (W.top 12) 4) (He.ma K (He.ga K "Go") "told") fd := cD.def_ 37 rfl
  obtain ⟨d_Least___init, F_Least___init⟩ : ∃ fd, W.FnP K "__init__" "Rule.__init__" (inClass (W.top 12) 0) (He.ma K (He.ga K "Least") "__init__") fd := cD.def_ 38 rfl
  obtain ⟨d_Least_word, F_Least_word⟩ : ∃ fd, W.FnP K "word" "Least.word" (inClass (W.top 16) 0) (He.ma K (He.ga K "Least") "word") fd := cD.def_ 39 rfl
  obtain ⟨d_Least_fits, F_Least_fits⟩ : ∃ fd, W.FnP K "fits" "Least.fits" (inClass (W.top 16) 1) (He.ma K (He.ga K "Least") "fits") fd := cD.def_ 40 rfl
  obtain ⟨d_Least_told, F_Least_told⟩ : ∃ fd, W.FnP K "told" "Rule.told" (inClass (W.top 12) 4) (He.ma K (He.ga K "Least") "told") fd := cD.def_ 41 rfl
  obtain ⟨d_Most___init, F_Most___init⟩ : ∃ fd, W.FnP K "__init__" "Rule.__init__" (inClass (W.top 12) 0) (He.ma K (He.ga K "Most") "__init__") fd := cD.def_ 42 rfl
  obtain ⟨d_Most_word, F_Most_word⟩ : ∃ fd, W.FnP K "word" "Most.word" (inClass (W.top 17) 0) (He.ma K (He.ga K "Most") "word") fd := cD.def_ 43 rfl
  obtain ⟨d_Most_fits, F_Most_fits⟩ : ∃ fd, W.FnP K "fits" "Most.fits" (inClass (W.top 17) 1) (He.ma K (He.ga K "Most") "fits") fd := cD.def_ 44 rfl
  obtain ⟨d_Most_told, F_Most_told⟩ : ∃ fd, W.FnP K "told" "Rule.told" (inClass (W.top 12) 4) (He.ma K (He.ga K "Most") "told") fd := cD.def_ 45 rfl
  obtain ⟨d_Deal___init, F_Deal___init⟩ : ∃ fd, W.FnP K "__init__" "Rule.__init__" (inClass (W.top 12) 0) (He.ma K (He.ga K "Deal") "__init__") fd := cD.def_ 46 rfl
  obtain ⟨d_Deal_word, F_Deal_word⟩ : ∃ fd, W.FnP K "word" "Deal.word" (inClass (W.top 18) 0) (He.ma K (He.ga K "Deal") "word") fd := cD.def_ 47 rfl
  obtain ⟨d_Deal_fits, F_Deal_fits⟩ : ∃ fd, W.FnP K "fits" "Deal.fits" (inClass (W.top 18) 1) (He.ma K (He.ga K "Deal") "fits") fd := cD.def_ 48 rfl
  obtain ⟨d_Deal_told, F_Deal_told⟩ : ∃ fd, W.FnP K "told" "Rule.told" (inClass (W.top 12) 4) (He.ma K (He.ga K "Deal") "told") fd := cD.def_ 49 rfl
  obtain ⟨d_Fee___init, F_Fee___init⟩ : ∃ fd, W.FnP K "__init__" "Rule.__init__" (inClass (W.top 12) 0) (He.ma K (He.ga K "Fee") "__init__") fd := cD.def_ 50 rfl
  obtain ⟨d_Fee_word, F_Fee_word⟩ : ∃ fd, W.FnP K "word" "Fee.word" (inClass (W.top 19) 0) (He.ma K (He.ga K "Fee") "word") fd := cD.def_ 51 rfl
  obtain ⟨d_Fee_fits, F_Fee_fits⟩ : ∃ fd, W.FnP K "fits" "Fee.fits" (inClass (W.top 19) 1) (He.ma K (He.ga K "Fee") "fits") fd := cD.def_ 52 rfl
  obtain ⟨d_Fee_told, F_Fee_told⟩ : ∃ fd, W.FnP K "told" "Rule.told" (inClass (W.top 12) 4) (He.ma K (He.ga K "Fee") "told") fd := cD.def_ 53 rfl
  have e := hfa.symm.trans (He.glo_ok X G (cD.fact 25 (f := .glo "law") rfl))
  cases e
  refine ⟨d_law, fun s v => FunD.bindsA (ps := ["_law_script"]) F_law (fun _ _ _ _ _ _ us hl => match us, hl with | [_], _ => rfl) s [v] rfl, fun base => ?_⟩
  have c_is_whole : C8.Cal P w K mg base 1 "is_whole" (spWhole K) [] := ⟨⟨_, _, ["thing"], [], W.ok_is_whole T  F_is_whole, He.glo_ok X G (cD.fact 0 (f := .glo "is_whole") rfl), F_is_whole.kp, FunD.bindsN F_is_whole (fun _ _ _ _ _ _ us hl => match us, hl with | [_], _ => rfl), .nil⟩⟩
  have c_is_day : C8.Cal P w K mg base 2 "is_day" (spDay K) [] := ⟨⟨_, _, ["thing"], [], W.ok_is_day T c_is_whole F_is_day, He.glo_ok X G (cD.fact 1 (f := .glo "is_day") rfl), F_is_day.kp, FunD.bindsN F_is_day (fun _ _ _ _ _ _ us hl => match us, hl with | [_], _ => rfl), .nil⟩⟩
  have c_is_two_days : C8.Cal P w K mg base 3 "is_two_days" (spTwo K) [] := ⟨⟨_, _, ["thing"], [], W.ok_is_two_days T c_is_day F_is_two_days, He.glo_ok X G (cD.fact 2 (f := .glo "is_two_days") rfl), F_is_two_days.kp, FunD.bindsN F_is_two_days (fun _ _ _ _ _ _ us hl => match us, hl with | [_], _ => rfl), .nil⟩⟩
  have c_is_stretch : C8.Cal P w K mg base 4 "is_stretch" (spStr2 K) [] := ⟨⟨_, _, ["thing"], [], W.ok_is_stretch T c_is_two_days F_is_stretch, He.glo_ok X G (cD.fact 3 (f := .glo "is_stretch") rfl), F_is_stretch.kp, FunD.bindsN F_is_stretch (fun _ _ _ _ _ _ us hl => match us, hl with | [_], _ => rfl), .nil⟩⟩
  have c_is_coins : C8.Cal P w K mg base 2 "is_coins" (spCoinsP K) [] := ⟨⟨_, _, ["thing"], [], W.ok_is_coins T c_is_whole F_is_coins, He.glo_ok X G (cD.fact 4 (f := .glo "is_coins") rfl), F_is_coins.kp, FunD.bindsN F_is_coins (fun _ _ _ _ _ _ us hl => match us, hl with | [_], _ => rfl), .nil⟩⟩
  have c_is_nights : C8.Cal P w K mg base 2 "is_nights" (spNights K) [] := ⟨⟨_, _, ["thing"], [], W.ok_is_nights T c_is_whole F_is_nights, He.glo_ok X G (cD.fact 5 (f := .glo "is_nights") rfl), F_is_nights.kp, FunD.bindsN F_is_nights (fun _ _ _ _ _ _ us hl => match us, hl with | [_], _ => rfl), .nil⟩⟩
  have k_Price : C8.Mak P w K mg base 1 "Price" (He.ga K "Price") (spRInit K) [] := ⟨⟨_, _, ["self", "first", "last", "worth"], [], He.mkr_ok (cD.fact 49 (f := .mkr "Price") rfl), W.ok_Rule___init T  F_Price___init, He.glo_ok X G (cD.fact 26 (f := .glo "Price") rfl), FunD.bindsN F_Price___init (fun _ _ _ _ _ _ us hl => match us, hl with | [_, _, _, _], _ => rfl), .nil⟩⟩
  have k_Come : C8.Mak P w K mg base 1 "Come" (He.ga K "Come") (spRInit K) [] := ⟨⟨_, _, ["self", "first", "last", "worth"], [], He.mkr_ok (cD.fact 54 (f := .mkr "Come") rfl), W.ok_Rule___init T  F_Come___init, He.glo_ok X G (cD.fact 27 (f := .glo "Come") rfl), FunD.bindsN F_Come___init (fun _ _ _ _ _ _ us hl => match us, hl with | [_, _, _, _], _ => rfl), .nil⟩⟩
  have k_Go : C8.Mak P w K mg base 1 "Go" (He.ga K "Go") (spRInit K) [] := ⟨⟨_, _, ["self", "first", "last", "worth"], [], He.mkr_ok (cD.fact 59 (f := .mkr "Go") rfl), W.ok_Rule___init T  F_Go___init, He.glo_ok X G (cD.fact 28 (f := .glo "Go") rfl), FunD.bindsN F_Go___init (fun _ _ _ _ _ _ us hl => match us, hl with | [_, _, _, _], _ => rfl), .nil⟩⟩
  have k_Least : C8.Mak P w K mg base 1 "Least" (He.ga K "Least") (spRInit K) [] := ⟨⟨_, _, ["self", "first", "last", "worth"], [], He.mkr_ok (cD.fact 64 (f := .mkr "Least") rfl), W.ok_Rule___init T  F_Least___init, He.glo_ok X G (cD.fact 29 (f := .glo "Least") rfl), FunD.bindsN F_Least___init (fun _ _ _ _ _ _ us hl => match us, hl with | [_, _, _, _], _ => rfl), .nil⟩⟩
  have k_Most : C8.Mak P w K mg base 1 "Most" (He.ga K "Most") (spRInit K) [] := ⟨⟨_, _, ["self", "first", "last", "worth"], [], He.mkr_ok (cD.fact 69 (f := .mkr "Most") rfl), W.ok_Rule___init T  F_Most___init, He.glo_ok X G (cD.fact 30 (f := .glo "Most") rfl), FunD.bindsN F_Most___init (fun _ _ _ _ _ _ us hl => match us, hl with | [_, _, _, _], _ => rfl), .nil⟩⟩
  have k_Deal : C8.Mak P w K mg base 1 "Deal" (He.ga K "Deal") (spRInit K) [] := ⟨⟨_, _, ["self", "first", "last", "worth"], [], He.mkr_ok (cD.fact 74 (f := .mkr "Deal") rfl), W.ok_Rule___init T  F_Deal___init, He.glo_ok X G (cD.fact 31 (f := .glo "Deal") rfl), FunD.bindsN F_Deal___init (fun _ _ _ _ _ _ us hl => match us, hl with | [_, _, _, _], _ => rfl), .nil⟩⟩
  have k_Fee : C8.Mak P w K mg base 1 "Fee" (He.ga K "Fee") (spRInit K) [] := ⟨⟨_, _, ["self", "first", "last", "worth"], [], He.mkr_ok (cD.fact 79 (f := .mkr "Fee") rfl), W.ok_Rule___init T  F_Fee___init, He.glo_ok X G (cD.fact 32 (f := .glo "Fee") rfl), FunD.bindsN F_Fee___init (fun _ _ _ _ _ _ us hl => match us, hl with | [_, _, _, _], _ => rfl), .nil⟩⟩
  have c_word : ∀ w0 ∈ WORDS, C8.Met P w K mg base 1 (cAd K w0) "word" (spWord K w0) [] := fun w0 hw => by
    rcases words_cases hw with rfl | rfl | rfl | rfl | rfl | rfl | rfl
    · rw [cAd_price]; exact ⟨⟨_, _, ["self"], [], He.cls_ok (cD.fact 48 (f := .cls "Price") rfl), He.meth_ok (cD.fact 83 (f := .meth "Price" "word") rfl), W.ok_Price_word T  F_Price_word, FunD.bindsN F_Price_word (fun _ _ _ _ _ _ us hl => match us, hl with | [_], _ => rfl), .nil⟩⟩
    · rw [cAd_come]; exact ⟨⟨_, _, ["self"], [], He.cls_ok (cD.fact 53 (f := .cls "Come") rfl), He.meth_ok (cD.fact 86 (f := .meth "Come" "word") rfl), W.ok_Come_word T  F_Come_word, FunD.bindsN F_Come_word (fun _ _ _ _ _ _ us hl => match us, hl with | [_], _ => rfl), .nil⟩⟩
    · rw [cAd_go]; exact ⟨⟨_, _, ["self"], [], He.cls_ok (cD.fact 58 (f := .cls "Go") rfl), He.meth_ok (cD.fact 89 (f := .meth "Go" "word") rfl), W.ok_Go_word T  F_Go_word, FunD.bindsN F_Go_word (fun _ _ _ _ _ _ us hl => match us, hl with | [_], _ => rfl), .nil⟩⟩
    · rw [cAd_least]; exact ⟨⟨_, _, ["self"], [], He.cls_ok (cD.fact 63 (f := .cls "Least") rfl), He.meth_ok (cD.fact 92 (f := .meth "Least" "word") rfl), W.ok_Least_word T  F_Least_word, FunD.bindsN F_Least_word (fun _ _ _ _ _ _ us hl => match us, hl with | [_], _ => rfl), .nil⟩⟩
    · rw [cAd_most]; exact ⟨⟨_, _, ["self"], [], He.cls_ok (cD.fact 68 (f := .cls "Most") rfl), He.meth_ok (cD.fact 95 (f := .meth "Most" "word") rfl), W.ok_Most_word T  F_Most_word, FunD.bindsN F_Most_word (fun _ _ _ _ _ _ us hl => match us, hl with | [_], _ => rfl), .nil⟩⟩
    · rw [cAd_deal]; exact ⟨⟨_, _, ["self"], [], He.cls_ok (cD.fact 73 (f := .cls "Deal") rfl), He.meth_ok (cD.fact 98 (f := .meth "Deal" "word") rfl), W.ok_Deal_word T  F_Deal_word, FunD.bindsN F_Deal_word (fun _ _ _ _ _ _ us hl => match us, hl with | [_], _ => rfl), .nil⟩⟩
    · rw [cAd_fee]; exact ⟨⟨_, _, ["self"], [], He.cls_ok (cD.fact 78 (f := .cls "Fee") rfl), He.meth_ok (cD.fact 101 (f := .meth "Fee" "word") rfl), W.ok_Fee_word T  F_Fee_word, FunD.bindsN F_Fee_word (fun _ _ _ _ _ _ us hl => match us, hl with | [_], _ => rfl), .nil⟩⟩
  have c_fits : ∀ w0 ∈ WORDS, C8.Met P w K mg base 3 (cAd K w0) "fits" (spFits K w0) [] := fun w0 hw => by
    rcases words_cases hw with rfl | rfl | rfl | rfl | rfl | rfl | rfl
    · rw [cAd_price]; exact ⟨⟨_, _, ["self"], [], He.cls_ok (cD.fact 48 (f := .cls "Price") rfl), He.meth_ok (cD.fact 84 (f := .meth "Price" "fits") rfl), W.ok_Price_fits T c_is_coins F_Price_fits, FunD.bindsN F_Price_fits (fun _ _ _ _ _ _ us hl => match us, hl with | [_], _ => rfl), .nil⟩⟩
    · rw [cAd_come]; exact ⟨⟨_, _, ["self"], [], He.cls_ok (cD.fact 53 (f := .cls "Come") rfl), He.meth_ok (cD.fact 87 (f := .meth "Come" "fits") rfl), W.ok_Come_fits T  F_Come_fits, FunD.bindsN F_Come_fits (fun _ _ _ _ _ _ us hl => match us, hl with | [_], _ => rfl), .nil⟩⟩
    · rw [cAd_go]; exact ⟨⟨_, _, ["self"], [], He.cls_ok (cD.fact 58 (f := .cls "Go") rfl), He.meth_ok (cD.fact 90 (f := .meth "Go" "fits") rfl), W.ok_Go_fits T  F_Go_fits, FunD.bindsN F_Go_fits (fun _ _ _ _ _ _ us hl => match us, hl with | [_], _ => rfl), .nil⟩⟩
    · rw [cAd_least]; exact ⟨⟨_, _, ["self"], [], He.cls_ok (cD.fact 63 (f := .cls "Least") rfl), He.meth_ok (cD.fact 93 (f := .meth "Least" "fits") rfl), W.ok_Least_fits T c_is_nights F_Least_fits, FunD.bindsN F_Least_fits (fun _ _ _ _ _ _ us hl => match us, hl with | [_], _ => rfl), .nil⟩⟩
    · rw [cAd_most]; exact ⟨⟨_, _, ["self"], [], He.cls_ok (cD.fact 68 (f := .cls "Most") rfl), He.meth_ok (cD.fact 96 (f := .meth "Most" "fits") rfl), W.ok_Most_fits T c_is_nights F_Most_fits, FunD.bindsN F_Most_fits (fun _ _ _ _ _ _ us hl => match us, hl with | [_], _ => rfl), .nil⟩⟩
    · rw [cAd_deal]; exact ⟨⟨_, _, ["self"], [], He.cls_ok (cD.fact 73 (f := .cls "Deal") rfl), He.meth_ok (cD.fact 99 (f := .meth "Deal" "fits") rfl), W.ok_Deal_fits T c_is_nights c_is_whole F_Deal_fits, FunD.bindsN F_Deal_fits (fun _ _ _ _ _ _ us hl => match us, hl with | [_], _ => rfl), .nil⟩⟩
    · rw [cAd_fee]; exact ⟨⟨_, _, ["self"], [], He.cls_ok (cD.fact 78 (f := .cls "Fee") rfl), He.meth_ok (cD.fact 102 (f := .meth "Fee" "fits") rfl), W.ok_Fee_fits T c_is_coins F_Fee_fits, FunD.bindsN F_Fee_fits (fun _ _ _ _ _ _ us hl => match us, hl with | [_], _ => rfl), .nil⟩⟩
  have c_told : ∀ w0 ∈ WORDS, C8.Met P w K mg base 2 (cAd K w0) "told" (spTold K) [] := fun w0 hw => by
    rcases words_cases hw with rfl | rfl | rfl | rfl | rfl | rfl | rfl
    · rw [cAd_price]; exact ⟨⟨_, _, ["self"], [], He.cls_ok (cD.fact 48 (f := .cls "Price") rfl), He.meth_ok (cD.fact 85 (f := .meth "Price" "told") rfl), W.ok_Rule_told T c_word F_Price_told, FunD.bindsN F_Price_told (fun _ _ _ _ _ _ us hl => match us, hl with | [_], _ => rfl), .nil⟩⟩
    · rw [cAd_come]; exact ⟨⟨_, _, ["self"], [], He.cls_ok (cD.fact 53 (f := .cls "Come") rfl), He.meth_ok (cD.fact 88 (f := .meth "Come" "told") rfl), W.ok_Rule_told T c_word F_Come_told, FunD.bindsN F_Come_told (fun _ _ _ _ _ _ us hl => match us, hl with | [_], _ => rfl), .nil⟩⟩
    · rw [cAd_go]; exact ⟨⟨_, _, ["self"], [], He.cls_ok (cD.fact 58 (f := .cls "Go") rfl), He.meth_ok (cD.fact 91 (f := .meth "Go" "told") rfl), W.ok_Rule_told T c_word F_Go_told, FunD.bindsN F_Go_told (fun _ _ _ _ _ _ us hl => match us, hl with | [_], _ => rfl), .nil⟩⟩
    · rw [cAd_least]; exact ⟨⟨_, _, ["self"], [], He.cls_ok (cD.fact 63 (f := .cls "Least") rfl), He.meth_ok (cD.fact 94 (f := .meth "Least" "told") rfl), W.ok_Rule_told T c_word F_Least_told, FunD.bindsN F_Least_told (fun _ _ _ _ _ _ us hl => match us, hl with | [_], _ => rfl), .nil⟩⟩
    · rw [cAd_most]; exact ⟨⟨_, _, ["self"], [], He.cls_ok (cD.fact 68 (f := .cls "Most") rfl), He.meth_ok (cD.fact 97 (f := .meth "Most" "told") rfl), W.ok_Rule_told T c_word F_Most_told, FunD.bindsN F_Most_told (fun _ _ _ _ _ _ us hl => match us, hl with | [_], _ => rfl), .nil⟩⟩
    · rw [cAd_deal]; exact ⟨⟨_, _, ["self"], [], He.cls_ok (cD.fact 73 (f := .cls "Deal") rfl), He.meth_ok (cD.fact 100 (f := .meth "Deal" "told") rfl), W.ok_Rule_told T c_word F_Deal_told, FunD.bindsN F_Deal_told (fun _ _ _ _ _ _ us hl => match us, hl with | [_], _ => rfl), .nil⟩⟩
    · rw [cAd_fee]; exact ⟨⟨_, _, ["self"], [], He.cls_ok (cD.fact 78 (f := .cls "Fee") rfl), He.meth_ok (cD.fact 103 (f := .meth "Fee" "told") rfl), W.ok_Rule_told T c_word F_Fee_told, FunD.bindsN F_Fee_told (fun _ _ _ _ _ _ us hl => match us, hl with | [_], _ => rfl), .nil⟩⟩
  have c_made : C8.Cal P w K mg base 3 "made" (spMade K) [] := ⟨⟨_, _, ["word", "first", "last", "worth"], [], W.ok_made T k_Price k_Come k_Go k_Least k_Most k_Deal k_Fee F_made, He.glo_ok X G (cD.fact 6 (f := .glo "made") rfl), F_made.kp, FunD.bindsN F_made (fun _ _ _ _ _ _ us hl => match us, hl with | [_, _, _, _], _ => rfl), .nil⟩⟩
  have c_rule_of : C8.Cal P w K mg base 5 "rule_of" (spRuleOf K) [] := ⟨⟨_, _, ["thing"], [], W.ok_rule_of T c_is_stretch c_made c_fits F_rule_of, He.glo_ok X G (cD.fact 7 (f := .glo "rule_of") rfl), F_rule_of.kp, FunD.bindsN F_rule_of (fun _ _ _ _ _ _ us hl => match us, hl with | [_], _ => rfl), .nil⟩⟩
  have c_worth_text : C8.Cal P w K mg base 1 "worth_text" (spWText K) [] := ⟨⟨_, _, ["word", "worth"], [], W.ok_worth_text T  F_worth_text, He.glo_ok X G (cD.fact 8 (f := .glo "worth_text") rfl), F_worth_text.kp, FunD.bindsN F_worth_text (fun _ _ _ _ _ _ us hl => match us, hl with | [_, _], _ => rfl), .nil⟩⟩
  have c_rule_text : C8.Cal P w K mg base 2 "rule_text" (spRText K) [] := ⟨⟨_, _, ["rule"], [], W.ok_rule_text T c_worth_text F_rule_text, He.glo_ok X G (cD.fact 9 (f := .glo "rule_text") rfl), F_rule_text.kp, FunD.bindsN F_rule_text (fun _ _ _ _ _ _ us hl => match us, hl with | [_], _ => rfl), .nil⟩⟩
  have c_number_by : C8.Cal P w K mg base 1 "number_by" (spNum K) [] := ⟨⟨_, _, ["word"], [], W.ok_number_by T  F_number_by, He.glo_ok X G (cD.fact 10 (f := .glo "number_by") rfl), F_number_by.kp, FunD.bindsN F_number_by (fun _ _ _ _ _ _ us hl => match us, hl with | [_], _ => rfl), .nil⟩⟩
  have c_worths_by : C8.Cal P w K mg base 2 "worths_by" (spWorths K) [] := ⟨⟨_, _, ["word", "words"], [], W.ok_worths_by T c_number_by F_worths_by, He.glo_ok X G (cD.fact 11 (f := .glo "worths_by") rfl), F_worths_by.kp, FunD.bindsN F_worths_by (fun _ _ _ _ _ _ us hl => match us, hl with | [_, _], _ => rfl), .nil⟩⟩
  have c_rule_by : C8.Cal P w K mg base 6 "rule_by" (spRuleBy K) [] := ⟨⟨_, _, ["text"], [], W.ok_rule_by T c_number_by c_worths_by c_rule_of c_rule_text c_told F_rule_by, He.glo_ok X G (cD.fact 12 (f := .glo "rule_by") rfl), F_rule_by.kp, FunD.bindsN F_rule_by (fun _ _ _ _ _ _ us hl => match us, hl with | [_], _ => rfl), .nil⟩⟩
  have c_law_begin : C8.Cal P w K mg base 1 "_law_begin" spBegin [] := ⟨⟨_, _, ["_law_cell"], [], W.ok_law_begin T  F_law_begin, He.glo_ok X G (cD.fact 13 (f := .glo "_law_begin") rfl), F_law_begin.kp, FunD.bindsN F_law_begin (fun _ _ _ _ _ _ us hl => match us, hl with | [_], _ => rfl), .nil⟩⟩
  have c_law_take : C8.Cal P w K mg base 1 "_law_take" spTake [] := ⟨⟨_, _, ["_law_row", "_law_base"], [], W.ok_law_take T  F_law_take, He.glo_ok X G (cD.fact 14 (f := .glo "_law_take") rfl), F_law_take.kp, FunD.bindsN F_law_take (fun _ _ _ _ _ _ us hl => match us, hl with | [_, _], _ => rfl), .nil⟩⟩
  have c_law_coins : C8.Cal P w K mg base 2 "_law_coins" spCoins [] := ⟨⟨_, _, ["_law_row"], [], W.ok_law_coins T c_law_take F_law_coins, He.glo_ok X G (cD.fact 15 (f := .glo "_law_coins") rfl), F_law_coins.kp, FunD.bindsN F_law_coins (fun _ _ _ _ _ _ us hl => match us, hl with | [_], _ => rfl), .nil⟩⟩
  have c_law_worth : C8.Cal P w K mg base 3 "_law_worth" (spWorth K) [] := ⟨⟨_, _, ["_law_row", "_law_word"], [], W.ok_law_worth T c_law_take c_law_coins F_law_worth, He.glo_ok X G (cD.fact 16 (f := .glo "_law_worth") rfl), F_law_worth.kp, FunD.bindsN F_law_worth (fun _ _ _ _ _ _ us hl => match us, hl with | [_, _], _ => rfl), .nil⟩⟩
  have c_law_rule : C8.Cal P w K mg base 4 "_law_rule" (spRule K) [] := ⟨⟨_, _, ["_law_row", "_law_day"], [], W.ok_law_rule T c_law_take c_law_worth F_law_rule, He.glo_ok X G (cD.fact 17 (f := .glo "_law_rule") rfl), F_law_rule.kp, FunD.bindsN F_law_rule (fun _ _ _ _ _ _ us hl => match us, hl with | [_, _], _ => rfl), .nil⟩⟩
  have c_law_number : C8.Cal P w K mg base 1 "_law_number" spNumI [] := ⟨⟨_, _, ["_law_word"], [], W.ok_law_number T  F_law_number, He.glo_ok X G (cD.fact 18 (f := .glo "_law_number") rfl), F_law_number.kp, FunD.bindsN F_law_number (fun _ _ _ _ _ _ us hl => match us, hl with | [_], _ => rfl), .nil⟩⟩
  have c_law_pair : C8.Cal P w K mg base 2 "_law_pair" (spPair K) [] := ⟨⟨_, _, ["_law_words"], [], W.ok_law_pair T c_law_number F_law_pair, He.glo_ok X G (cD.fact 19 (f := .glo "_law_pair") rfl), F_law_pair.kp, FunD.bindsN F_law_pair (fun _ _ _ _ _ _ us hl => match us, hl with | [_], _ => rfl), .nil⟩⟩
  have c_law_worth_by : C8.Cal P w K mg base 3 "_law_worth_by" (spWorthDue K) [] := ⟨⟨_, _, ["_law_word", "_law_words"], [], W.ok_law_worth_by T c_law_number c_law_pair F_law_worth_by, He.glo_ok X G (cD.fact 20 (f := .glo "_law_worth_by") rfl), F_law_worth_by.kp, FunD.bindsN F_law_worth_by (fun _ _ _ _ _ _ us hl => match us, hl with | [_, _], _ => rfl), .nil⟩⟩
  have c_law_due : C8.Cal P w K mg base 4 "_law_due" (spDue K) [] := ⟨⟨_, _, ["_law_text"], [], W.ok_law_due T c_law_number c_law_worth_by F_law_due, He.glo_ok X G (cD.fact 21 (f := .glo "_law_due") rfl), F_law_due.kp, FunD.bindsN F_law_due (fun _ _ _ _ _ _ us hl => match us, hl with | [_], _ => rfl), .nil⟩⟩
  have c_law_odd : C8.Cal P w K mg base 2 "_law_odd" spOdd [] := ⟨⟨_, _, ["_law_row"], [], W.ok_law_odd T c_law_take F_law_odd, He.glo_ok X G (cD.fact 22 (f := .glo "_law_odd") rfl), F_law_odd.kp, FunD.bindsN F_law_odd (fun _ _ _ _ _ _ us hl => match us, hl with | [_], _ => rfl), .nil⟩⟩
  have c_law_bent : C8.Cal P w K mg base 3 "_law_bent" spBent [] := ⟨⟨_, _, ["_law_row", "_law_text"], [], W.ok_law_bent T c_law_take c_law_odd F_law_bent, He.glo_ok X G (cD.fact 23 (f := .glo "_law_bent") rfl), F_law_bent.kp, FunD.bindsN F_law_bent (fun _ _ _ _ _ _ us hl => match us, hl with | [_, _], _ => rfl), .nil⟩⟩
  have c_law_right : C8.Cal P w K mg base 7 "_law_right" spRight [] := ⟨⟨_, _, ["_law_text"], [], W.ok_law_right T c_law_due c_rule_by F_law_right, He.glo_ok X G (cD.fact 24 (f := .glo "_law_right") rfl), F_law_right.kp, FunD.bindsN F_law_right (fun _ _ _ _ _ _ us hl => match us, hl with | [_], _ => rfl), .nil⟩⟩
  exact W.ok_law T c_law_begin c_law_take c_law_rule c_rule_text c_law_odd c_law_bent c_law_right F_law
end As
open PySem PySem.W PySem.Calls PyProof.Rows
theorem PySem.Challenge.cw_stayprice_k22_texts_of_no_rule_holds : PySem.Challenge.rw_stayprice_k22_texts_of_no_rule.Holds := by
  w_on; o_law
  refine HandSHeadRun.head_any (r := OpenLaw.row PySem.Challenge.rw_stayprice_k22_texts_of_no_rule) (q := view (OpenLaw.row PySem.Challenge.rw_stayprice_k22_texts_of_no_rule).prog [43]) (H := Hd.hk) (ob := Hd.ob) (M := 3600) (loose := Hd.nms) (d := HandSHeadRun.topDef (OpenLaw.row PySem.Challenge.rw_stayprice_k22_texts_of_no_rule).prog 43) (kwd := []) Hd.ob_eq
    (by kernel_rfl) (fun s => by kernel_rfl) Hd.run (by kernel_rfl) (by kernel_rfl) (by kernel_rfl) (by rfl) (by first | assumption | decide +kernel) (by decide +kernel) ⟨rfl, rfl, rfl, rfl, rfl, by decide +kernel⟩ ?hw ?hc
  case hw => w_witness2
  case hc =>
    refine L2.walk_ofE (l := PySem.Challenge.rw_stayprice_k22_texts_of_no_rule) (n := 63) (k := 8) (x := "_law_script") (CX := L2.CX0) rfl (by decide) (by kernel_rfl) ⟨rfl, by decide, by decide⟩ ?F (fun _ _ _ _ z => z)
    intro w mg fa h Y G hmg0
    obtain ⟨K, KX, c⟩ := Y
    have hmg : mg ("law" : PySem.Str) = some (.ref fa) := by
      have e : (HandSHeadRun.topDef (OpenLaw.row PySem.Challenge.rw_stayprice_k22_texts_of_no_rule).prog 43).name = ("law" : PySem.Str) := by kernel_rfl
      rw [← e]
      exact hmg0
    obtain ⟨fd, hb, hF⟩ := As.facts (P := (PySem.Challenge.rw_stayprice_k22_texts_of_no_rule).prog) (w := w) KX G hmg c
    exact ⟨K, fd, Pm.spLaw K, KX, hb, fun H a ns hl _ hS => Pm.law_end hl hS, fun base _ _ => hF base⟩
