import PyProof.Rows.All
import Wide.All
import OpenK.AllK
import Wide.FinOn
import HandS.HeadEnd
import KE.KRevSl
import HandS.Style
import HandS.Conv
import HandS.TupAny
import HandS.DictComp
import KE.KDictWalk
import HandS.Iter
import HandS.OwnEq
import HandS.Codes
import HandS.MakeKwOnly
import HandS.NoneIn
import HandS.More
import HandS.SetKeys
import HandS.WordsDict
import PyProof.Draws
import KE.GoesMore
import KE.KDictPairs
import HandS.SetFor
import HandS.Strs
import HandS.TupLen
import HandS.SortOrd
import HandS.SortRule
import HandS.NamedTupSort
import HandS.TupSets
import HandS.Zip
import HandS.ForMost
import HandS.Defaults
import HandS.MakeKw
import HandS.IsInst
import HandS.Walk
import HandS.TupLe
import HandS.SortInts
import HandS.Wide
import KE.KStateDown
import Lean
import HandS.Head0
import HandS.Head1
import HandS.Head2
import HandS.HeadHook1
import HandS.HeadHook2
import PySem.Challenge.RW_bordersalone_k96_whole_falls_undone
set_option Elab.async false
set_option linter.all false
set_option maxRecDepth 100000
set_option maxHeartbeats 2000000
/-! Rz1: what a value stands for (Rp), steps of the heap, typed slots, readings that give a typed value. Own work. -/
namespace Rz
open PySem L2

/-! ### heaps -/
def Ex (H H' : Hp) : Prop := ∀ a o, H a = some o → H' a = some o
theorem Ex.refl (H : Hp) : Ex H H := fun _ _ h => h
theorem Ex.trans {A B C : Hp} (x : Ex A B) (y : Ex B C) : Ex A C := fun a o h => y a o (x a o h)
theorem Ex.new {H : Hp} {p : Addr} {o : HO} (h : H p = none) : Ex H (upd H p o) := fun a u e => by
  rw [upd_ne (ne_of_none e h)]; exact e
def isD : HO → Bool
  | .dK _ => true
  | .dT _ => true
  | _ => false
/-- what G knows stands in H; a dict may be locked there -/
def Sub (G H : Hp) : Prop := ∀ a u, G a = some u → H a = some u ∨ (isD u = true ∧ ∃ o, H a = some (.frz o u))
theorem Sub.refl (H : Hp) : Sub H H := fun _ _ h => .inl h
theorem Sub.of {G H : Hp} (e : Ex G H) : Sub G H := fun a u h => .inl (e a u h)
theorem Sub.none {G H : Hp} (s : Sub G H) {p : Addr} (h : H p = none) : G p = none := by
  cases q : G p with
  | none => rfl
  | some u =>
    rcases s p u q with e | ⟨_, o, e⟩
    · rw [h] at e; cases e
    · rw [h] at e; cases e
theorem Sub.ex {G H H' : Hp} (s : Sub G H) (e : Ex H H') : Sub G H' := fun a u h => by
  rcases s a u h with q | ⟨d, o, q⟩
  · exact .inl (e _ _ q)
  · exact .inr ⟨d, o, e _ _ q⟩
theorem Sub.pre {F G H : Hp} (e : Ex F G) (s : Sub G H) : Sub F H := fun a u h => s a u (e a u h)
theorem Sub.rd {G H : Hp} (s : Sub G H) {a : Addr} {u : HO} (h : G a = some u) : Rd H a u := by
  rcases s a u h with q | ⟨_, o, q⟩
  · exact .inl q
  · exact .inr ⟨o, q⟩
theorem Sub.at_ {G H : Hp} (s : Sub G H) {a : Addr} {u : HO} (h : G a = some u) (d : isD u = false) : H a = some u := by
  rcases s a u h with q | ⟨e, _⟩
  · exact q
  · rw [d] at e; cases e
theorem Sub.lst {K : PySem.W.Frag} {G H : Hp} (s : Sub G H) {a : Addr} {xs : List V} (h : G a = some (.lst xs)) : SqL K H a xs := .inl (.inl (s.at_ h rfl))
theorem Sub.tup {K : PySem.W.Frag} {G H : Hp} (s : Sub G H) {a : Addr} {xs : List V} (h : G a = some (.tup xs)) : SqT K H a xs := .inl (.inl (s.at_ h rfl))
/-- an object stands at a, and it is no tuple -/
def NT (H : Hp) (a : Addr) : Prop := H a ≠ none ∧ ∀ vs, H a ≠ some (.tup vs)
theorem NT.mut {H : Hp} {a : Addr} {o : HO} (h : H a = some o) (m : Mut (some o)) : NT H a := ⟨by rw [h]; simp, fun vs e => by
  rw [h] at e; cases e; exact m⟩
theorem NT.frz {H : Hp} {a : Addr} {o : HO} {od : Obj} (h : H a = some (.frz od o)) : NT H a := ⟨by rw [h]; simp, fun vs e => by
  rw [h] at e; cases e⟩
theorem NT.ex {H H' : Hp} {a : Addr} (n : NT H a) (e : Ex H H') : NT H' a := by
  cases q : H a with
  | none => exact absurd q n.1
  | some o =>
    refine ⟨by rw [e a o q]; simp, fun vs z => ?_⟩
    rw [e a o q] at z
    exact n.2 vs (q.trans z)
/-- from what is known G in the heap H to G' in H': of H nothing changes but X, G grows by new objects alone -/
structure Step (X : List Addr) (G H G' H' : Hp) : Prop where
  gg : Ex G G'
  sub : Sub G' H'
  hh : ∀ a o, H a = some o → a ∉ X → H' a = some o
  all : ∀ a, H a ≠ none → H' a ≠ none
  old : ∀ a, NT H a → G' a = G a
  nt : ∀ a, NT H a → NT H' a
  tt : ∀ a vs, H a = some (.tup vs) → H' a = some (.tup vs)
theorem some_ne {H : Hp} {a : Addr} {o : HO} (h : H a = some o) : H a ≠ none := by rw [h]; simp
theorem Step.of {G H G' H' : Hp} (gg : Ex G G') (sub : Sub G' H') (hh : Ex H H') (old : ∀ a, NT H a → G' a = G a) : Step [] G H G' H' :=
  ⟨gg, sub, fun a o h _ => hh a o h, fun a n => by
    cases q : H a with
    | none => exact absurd q n
    | some o => exact some_ne (hh a o q), old, fun _ n => n.ex hh, fun a vs h => hh a _ h⟩
theorem Step.ex {G H G' H' : Hp} (x : Step [] G H G' H') : Ex H H' := fun a o h => x.hh a o h (by simp)
theorem Step.refl {X : List Addr} {G H : Hp} (s : Sub G H) : Step X G H G H := ⟨Ex.refl _, s, fun _ _ h _ => h, fun _ n => n, fun _ _ => rfl, fun _ n => n, fun _ _ h => h⟩
theorem Step.more {X Y : List Addr} {G H G' H' : Hp} (x : Step X G H G' H') (h : ∀ a ∈ X, a ∈ Y) : Step Y G H G' H' := ⟨x.gg, x.sub, fun a o e n => x.hh a o e fun m => n (h a m), x.all, x.old, x.nt, x.tt⟩
theorem Step.any {Y : List Addr} {G H G' H' : Hp} (x : Step [] G H G' H') : Step Y G H G' H' := x.more (by simp)
theorem Step.trans {X : List Addr} {G H G1 H1 G2 H2 : Hp} (x : Step X G H G1 H1) (y : Step X G1 H1 G2 H2) : Step X G H G2 H2 :=
  ⟨x.gg.trans y.gg, y.sub, fun a o h n => y.hh a o (x.hh a o h n) n, fun a n => y.all a (x.all a n), fun a n => by rw [y.old a (x.nt a n), x.old a n], fun a n => y.nt a (x.nt a n), fun a vs h => y.tt a vs (x.tt a vs h)⟩
theorem Step.new {G H : Hp} {p : Addr} {o : HO} (s : Sub G H) (h : H p = none) : Step [] G H (upd G p o) (upd H p o) := by
  have gp : G p = none := s.none h
  refine Step.of (Ex.new gp) (fun a u e => ?_) (Ex.new h) (fun a n => ?_)
  · by_cases ha : a = p
    · subst ha; rw [upd_same] at e; cases e; exact .inl upd_same
    · rw [upd_ne ha] at e
      rw [upd_ne ha]; exact s a u e
  · exact upd_ne (fun e => n.1 (by rw [e]; exact h))
/-- a tuple that stands is known from here on -/
theorem Step.learn {G H : Hp} {p : Addr} {vs : List V} (s : Sub G H) (h : H p = some (.tup vs)) : Step [] G H (upd G p (.tup vs)) H := by
  refine Step.of (fun a u e => ?_) (fun a u e => ?_) (Ex.refl _) (fun a n => ?_)
  · by_cases ha : a = p
    · subst ha
      rcases s _ u e with q | ⟨_, o, q⟩
      · rw [h] at q; cases q; exact upd_same
      · rw [h] at q; cases q
    · rw [upd_ne ha]; exact e
  · by_cases ha : a = p
    · subst ha; rw [upd_same] at e; cases e; exact .inl h
    · rw [upd_ne ha] at e; exact s a u e
  · exact upd_ne (fun e => n.2 vs (by rw [e]; exact h))
/-- a new object that is not yet known: it may still change -/
theorem Step.newH {G H : Hp} {p : Addr} {o : HO} (s : Sub G H) (h : H p = none) : Step [] G H G (upd H p o) :=
  Step.of (Ex.refl _) (s.ex (Ex.new h)) (Ex.new h) (fun _ _ => rfl)
/-! ### what a value stands for -/
structure Rp where
  p : V → Hp → Prop
  mono : ∀ v G G', Ex G G' → p v G → p v G'
def rIs (c : V) : Rp := ⟨fun v _ => v = c, fun _ _ _ _ h => h⟩
abbrev rInt (i : Int) : Rp := rIs (.int i)
abbrev rBl (b : Bool) : Rp := rIs (.bl b)
abbrev rNon : Rp := rIs .non
abbrev rRef (a : Addr) : Rp := rIs (.ref a)
def rAny : Rp := ⟨fun _ _ => True, fun _ _ _ _ h => h⟩
def rEx {β : Type} (P : β → Prop) (R : β → Rp) : Rp := ⟨fun v G => ∃ b, P b ∧ (R b).p v G, fun v G G' e ⟨b, hb, h⟩ => ⟨b, hb, (R b).mono v G G' e h⟩⟩
def All2 : List V → List Rp → Hp → Prop
  | [], [], _ => True
  | v :: vs, R :: Rs, G => R.p v G ∧ All2 vs Rs G
  | _, _, _ => False
theorem All2.mono : ∀ {vs : List V} {Rs : List Rp} {G G' : Hp}, Ex G G' → All2 vs Rs G → All2 vs Rs G'
  | [], [], _, _, _, _ => trivial
  | _ :: _, R :: _, _, _, e, h => ⟨R.mono _ _ _ e h.1, All2.mono e h.2⟩
  | [], _ :: _, _, _, _, h => h.elim
  | _ :: _, [], _, _, _, h => h.elim
theorem All2.length : ∀ {vs : List V} {Rs : List Rp} {G : Hp}, All2 vs Rs G → vs.length = Rs.length
  | [], [], _, _ => rfl
  | _ :: _, _ :: _, _, h => congrArg Nat.succ (All2.length h.2)
  | [], _ :: _, _, h => h.elim
  | _ :: _, [], _, h => h.elim
theorem All2.get : ∀ {vs : List V} {Rs : List Rp} {G : Hp} {i : Nat} {R : Rp}, All2 vs Rs G → Rs[i]? = some R → ∃ v, vs[i]? = some v ∧ R.p v G
  | [], [], _, _, _, _, e => by simp at e
  | v :: _, _ :: _, _, 0, _, h, e => by simp at e; subst e; exact ⟨v, rfl, h.1⟩
  | _ :: _, _ :: _, _, i + 1, _, h, e => by
    obtain ⟨v, h1, h2⟩ := All2.get (i := i) h.2 (by simpa using e)
    exact ⟨v, by simpa using h1, h2⟩
  | [], _ :: _, _, _, _, h, _ => h.elim
  | _ :: _, [], _, _, _, h, _ => h.elim
theorem All2.getV : ∀ {vs : List V} {Rs : List Rp} {G : Hp} {i : Nat} {v : V}, All2 vs Rs G → vs[i]? = some v → ∃ R, Rs[i]? = some R ∧ R.p v G
  | [], [], _, _, _, _, e => by simp at e
  | _ :: _, R :: _, _, 0, _, h, e => by simp at e; subst e; exact ⟨R, rfl, h.1⟩
  | _ :: _, _ :: _, _, i + 1, _, h, e => by
    obtain ⟨v, h1, h2⟩ := All2.getV (i := i) h.2 (by simpa using e)
    exact ⟨v, by simpa using h1, h2⟩
  | [], _ :: _, _, _, _, h, _ => h.elim
  | _ :: _, [], _, _, _, h, _ => h.elim
theorem All2.app : ∀ {vs ws : List V} {Rs Ss : List Rp} {G : Hp}, All2 vs Rs G → All2 ws Ss G → All2 (vs ++ ws) (Rs ++ Ss) G
  | [], _, [], _, _, _, k => k
  | _ :: _, _, _ :: _, _, _, h, k => ⟨h.1, All2.app h.2 k⟩
  | [], _, _ :: _, _, _, h, _ => h.elim
  | _ :: _, _, [], _, _, h, _ => h.elim
theorem All2.snoc {vs : List V} {Rs : List Rp} {G : Hp} {v : V} {R : Rp} (h : All2 vs Rs G) (k : R.p v G) : All2 (vs ++ [v]) (Rs ++ [R]) G := h.app ⟨k, trivial⟩
theorem All2.eqs : ∀ {vs : List V} {α : Type} {f : α → V} {ns : List α} {G : Hp}, All2 vs (ns.map fun n => rIs (f n)) G → vs = ns.map f
  | [], _, _, [], _, _ => rfl
  | v :: vs, _, f, n :: ns, G, h => by
    have e : v = f n := h.1
    rw [e, All2.eqs (vs := vs) (ns := ns) h.2]; rfl
  | [], _, _, _ :: _, _, h => h.elim
  | _ :: _, _, _, [], _, h => h.elim
theorem All2.of_eqs {α : Type} {f : α → V} {G : Hp} : ∀ (ns : List α), All2 (ns.map f) (ns.map fun n => rIs (f n)) G
  | [] => trivial
  | n :: ns => ⟨rfl, All2.of_eqs ns⟩
theorem All2.take : ∀ {vs : List V} {Rs : List Rp} {G : Hp} (n : Nat), All2 vs Rs G → All2 (vs.take n) (Rs.take n) G
  | _, _, _, 0, _ => trivial
  | [], [], _, _ + 1, _ => trivial
  | _ :: _, _ :: _, _, n + 1, h => ⟨h.1, All2.take n h.2⟩
  | [], _ :: _, _, _ + 1, h => h.elim
  | _ :: _, [], _, _ + 1, h => h.elim
theorem All2.drop : ∀ {vs : List V} {Rs : List Rp} {G : Hp} (n : Nat), All2 vs Rs G → All2 (vs.drop n) (Rs.drop n) G
  | _, _, _, 0, h => h
  | [], [], _, _ + 1, _ => trivial
  | _ :: _, _ :: _, _, n + 1, h => All2.drop n h.2
  | [], _ :: _, _, _ + 1, h => h.elim
  | _ :: _, [], _, _ + 1, h => h.elim
theorem All2.set : ∀ {vs : List V} {Rs : List Rp} {G : Hp} {v : V} {R : Rp} (n : Nat), All2 vs Rs G → R.p v G → All2 (vs.set n v) (Rs.set n R) G
  | [], [], _, _, _, _, _, _ => trivial
  | _ :: _, _ :: _, _, _, _, 0, h, k => ⟨k, h.2⟩
  | _ :: _, _ :: _, _, _, _, n + 1, h, k => ⟨h.1, All2.set n h.2 k⟩
  | [], _ :: _, _, _, _, _, h, _ => h.elim
  | _ :: _, [], _, _, _, _, h, _ => h.elim
theorem All2.erase : ∀ {vs : List V} {Rs : List Rp} {G : Hp} (n : Nat), All2 vs Rs G → All2 (vs.eraseIdx n) (Rs.eraseIdx n) G
  | [], [], _, _, _ => trivial
  | _ :: _, _ :: _, _, 0, h => h.2
  | _ :: _, _ :: _, _, n + 1, h => ⟨h.1, All2.erase n h.2⟩
  | [], _ :: _, _, _, h => h.elim
  | _ :: _, [], _, _, h => h.elim
theorem All2.rev : ∀ {vs : List V} {Rs : List Rp} {G : Hp}, All2 vs Rs G → All2 vs.reverse Rs.reverse G
  | [], [], _, _ => trivial
  | v :: vs, R :: Rs, G, h => by rw [List.reverse_cons, List.reverse_cons]; exact (All2.rev h.2).snoc h.1
  | [], _ :: _, _, h => h.elim
  | _ :: _, [], _, h => h.elim
/-- the same places in another order -/
theorem All2.perm {vs ws : List V} {G : Hp} (p : ws.Perm vs) : ∀ {Rs : List Rp}, All2 vs Rs G → ∃ Ss, Ss.Perm Rs ∧ All2 ws Ss G := by
  induction p with
  | nil => intro Rs h; exact ⟨Rs, List.Perm.refl _, h⟩
  | cons x _ ih =>
    intro Rs h
    match Rs, h with
    | R :: Rs, h =>
      obtain ⟨Ss, q, k⟩ := ih h.2
      exact ⟨R :: Ss, q.cons R, h.1, k⟩
  | swap x y l =>
    intro Rs h
    match Rs, h with
    | R :: S :: Rs, h => exact ⟨S :: R :: Rs, List.Perm.swap _ _ _, h.2.1, h.1, h.2.2⟩
  | trans _ _ ih1 ih2 =>
    intro Rs h
    obtain ⟨Ss, q1, k1⟩ := ih2 h
    obtain ⟨Ts, q2, k2⟩ := ih1 k1
    exact ⟨Ts, q2.trans q1, k2⟩
def AllK {κ : Type} : List (κ × V) → List (κ × Rp) → Hp → Prop
  | [], [], _ => True
  | p :: l, q :: r, G => (p.1 = q.1 ∧ q.2.p p.2 G) ∧ AllK l r G
  | _, _, _ => False
theorem AllK.mono {κ : Type} : ∀ {l : List (κ × V)} {r : List (κ × Rp)} {G G' : Hp}, Ex G G' → AllK l r G → AllK l r G'
  | [], [], _, _, _, _ => trivial
  | _ :: _, q :: _, _, _, e, h => ⟨⟨h.1.1, q.2.mono _ _ _ e h.1.2⟩, AllK.mono e h.2⟩
  | [], _ :: _, _, _, _, h => h.elim
  | _ :: _, [], _, _, _, h => h.elim
theorem AllK.length {κ : Type} : ∀ {l : List (κ × V)} {r : List (κ × Rp)} {G : Hp}, AllK l r G → l.length = r.length
  | [], [], _, _ => rfl
  | _ :: _, _ :: _, _, h => congrArg Nat.succ (AllK.length h.2)
  | [], _ :: _, _, h => h.elim
  | _ :: _, [], _, h => h.elim
def rTup (Rs : List Rp) : Rp := ⟨fun v G => ∃ a vs, v = .ref a ∧ G a = some (.tup vs) ∧ All2 vs Rs G, fun _ _ _ e ⟨a, vs, h1, h2, h3⟩ => ⟨a, vs, h1, e _ _ h2, h3.mono e⟩⟩
def rLst (Rs : List Rp) : Rp := ⟨fun v G => ∃ a vs, v = .ref a ∧ G a = some (.lst vs) ∧ All2 vs Rs G, fun _ _ _ e ⟨a, vs, h1, h2, h3⟩ => ⟨a, vs, h1, e _ _ h2, h3.mono e⟩⟩
def rDK (kvs : List (Key × Rp)) : Rp := ⟨fun v G => ∃ a l, v = .ref a ∧ G a = some (.dK l) ∧ AllK l kvs G, fun _ _ _ e ⟨a, vs, h1, h2, h3⟩ => ⟨a, vs, h1, e _ _ h2, h3.mono e⟩⟩
def rDT (kvs : List (List Key × Rp)) : Rp := ⟨fun v G => ∃ a l, v = .ref a ∧ G a = some (.dT l) ∧ AllK l kvs G, fun _ _ _ e ⟨a, vs, h1, h2, h3⟩ => ⟨a, vs, h1, e _ _ h2, h3.mono e⟩⟩
def rIns (C : Addr) (fs : List (Str × Rp)) : Rp := ⟨fun v G => ∃ a dx l, v = .ref a ∧ G a = some (.ins C dx l) ∧ AllK l fs G, fun _ _ _ e ⟨a, dx, vs, h1, h2, h3⟩ => ⟨a, dx, vs, h1, e _ _ h2, h3.mono e⟩⟩
/-- a tuple, a list of ints -/
abbrev rTI (ns : List Int) : Rp := rTup (ns.map fun n => rIs (.int n))
abbrev rLI (ns : List Int) : Rp := rLst (ns.map fun n => rIs (.int n))
theorem rTI_at {ns : List Int} {v : V} {G : Hp} (h : (rTI ns).p v G) : ∃ a, v = .ref a ∧ G a = some (.tup (ns.map V.int)) := by
  obtain ⟨a, vs, e, h1, h2⟩ := h
  exact ⟨a, e, by rw [h1, h2.eqs]⟩
theorem rLI_at {ns : List Int} {v : V} {G : Hp} (h : (rLI ns).p v G) : ∃ a, v = .ref a ∧ G a = some (.lst (ns.map V.int)) := by
  obtain ⟨a, vs, e, h1, h2⟩ := h
  exact ⟨a, e, by rw [h1, h2.eqs]⟩
theorem rTI_of {ns : List Int} {a : Addr} {G : Hp} (h : G a = some (.tup (ns.map V.int))) : (rTI ns).p (.ref a) G := ⟨a, _, rfl, h, All2.of_eqs ns⟩
theorem rLI_of {ns : List Int} {a : Addr} {G : Hp} (h : G a = some (.lst (ns.map V.int))) : (rLI ns).p (.ref a) G := ⟨a, _, rfl, h, All2.of_eqs ns⟩

/-! ### objects that are read as they are now -/
inductive OC where
  | lst (Rs : List Rp)
  | dK (kvs : List (Key × Rp))
  | dT (kvs : List (List Key × Rp))
  | ins (C dx : Addr) (fs : List (Str × Rp))
  /-- a dict that is locked while it is walked -/
  | lkK (od : Obj) (l : List (Key × V)) (kvs : List (Key × Rp))
  | lkT (od : Obj) (l : List (List Key × V)) (kvs : List (List Key × Rp))
def OC.may : OC → Bool
  | .lkK _ _ _ => false
  | .lkT _ _ _ => false
  | _ => true
def OC.ok : OC → HO → Hp → Prop
  | .lst Rs, .lst vs, G => All2 vs Rs G
  | .dK r, .dK l, G => AllK l r G
  | .dT r, .dT l, G => AllK l r G
  | .ins C dx r, .ins C' dx' l, G => C = C' ∧ dx = dx' ∧ AllK l r G
  | .lkK od l0 r, .frz od' (.dK l), G => (od = od' ∧ l0 = l) ∧ AllK l r G
  | .lkT od l0 r, .frz od' (.dT l), G => (od = od' ∧ l0 = l) ∧ AllK l r G
  | _, _, _ => False
theorem OC.ok_mono {c : OC} {o : HO} {G G' : Hp} (e : Ex G G') (h : c.ok o G) : c.ok o G' := by
  unfold OC.ok at h ⊢
  split at h
  · exact All2.mono e h
  · exact AllK.mono e h
  · exact AllK.mono e h
  · exact ⟨h.1, h.2.1, AllK.mono e h.2.2⟩
  · exact ⟨h.1, AllK.mono e h.2⟩
  · exact ⟨h.1, AllK.mono e h.2⟩
  · exact h.elim
abbrev Os := List (Addr × OC)
def RO (O : Os) (G H : Hp) : Prop := ∀ e ∈ O, ∃ o, H e.1 = some o ∧ e.2.ok o G
theorem RO.step {O : Os} {G H G' H' : Hp} (h : RO O G H) (e : Ex G G') (k : Ex H H') : RO O G' H' := fun x hx => by
  obtain ⟨o, h1, h2⟩ := h x hx
  exact ⟨o, k _ _ h1, OC.ok_mono e h2⟩
theorem RO.nil {G H : Hp} : RO [] G H := fun _ h => by simp at h

/-! ### slots -/
def Ty : St → List (Option Rp) → Hp → Prop
  | [], [], _ => True
  | o :: s, g :: t, G => (match g with
    | none => True
    | some R => ∃ v, o = some v ∧ R.p v G) ∧ Ty s t G
  | _, _, _ => False
abbrev Tys := List (Option Rp)
theorem Ty.mono : ∀ {s : St} {t : Tys} {G G' : Hp}, Ex G G' → Ty s t G → Ty s t G'
  | [], [], _, _, _, _ => trivial
  | o :: s, g :: t, G, G', e, h => by
    refine ⟨?_, Ty.mono e h.2⟩
    cases g with
    | none => trivial
    | some R =>
      obtain ⟨v, e1, h1⟩ := h.1
      exact ⟨v, e1, R.mono _ _ _ e h1⟩
  | [], _ :: _, _, _, _, h => h.elim
  | _ :: _, [], _, _, _, h => h.elim
theorem Ty.get : ∀ {s : St} {t : Tys} {G : Hp} {i : Nat} {R : Rp}, Ty s t G → t[i]? = some (some R) → ∃ v, s[i]? = some (some v) ∧ R.p v G
  | [], [], _, _, _, _, e => by simp at e
  | o :: s, g :: t, G, 0, R, h, e => by
    simp at e; subst e
    obtain ⟨v, e1, h1⟩ := h.1
    exact ⟨v, by simp [e1], h1⟩
  | o :: s, g :: t, G, i + 1, R, h, e => by
    obtain ⟨v, h1, h2⟩ := Ty.get (i := i) h.2 (by simpa using e)
    exact ⟨v, by simpa using h1, h2⟩
  | [], _ :: _, _, _, _, h, _ => h.elim
  | _ :: _, [], _, _, _, h, _ => h.elim
theorem Ty.set : ∀ {s : St} {t : Tys} {G : Hp} {v : V} {R : Rp} (i : Nat), Ty s t G → R.p v G → Ty (s.set i (some v)) (t.set i (some R)) G
  | [], [], _, _, _, _, _, _ => trivial
  | o :: s, g :: t, G, v, R, 0, h, k => ⟨⟨v, rfl, k⟩, h.2⟩
  | o :: s, g :: t, G, v, R, i + 1, h, k => ⟨h.1, Ty.set i h.2 k⟩
  | [], _ :: _, _, _, _, _, h, _ => h.elim
  | _ :: _, [], _, _, _, _, h, _ => h.elim
theorem Ty.unset : ∀ {s : St} {t : Tys} {G : Hp} (i : Nat), Ty s t G → Ty (s.set i none) (t.set i none) G
  | [], [], _, _, _ => trivial
  | o :: s, g :: t, G, 0, h => ⟨trivial, h.2⟩
  | o :: s, g :: t, G, i + 1, h => ⟨h.1, Ty.unset i h.2⟩
  | [], _ :: _, _, _, h => h.elim
  | _ :: _, [], _, _, h => h.elim
theorem Ty.forget : ∀ {s : St} {t : Tys} {G : Hp} (i : Nat), Ty s t G → Ty s (t.set i none) G
  | [], [], _, _, _ => trivial
  | o :: s, g :: t, G, 0, h => ⟨trivial, h.2⟩
  | o :: s, g :: t, G, i + 1, h => ⟨h.1, Ty.forget i h.2⟩
  | [], _ :: _, _, _, h => h.elim
  | _ :: _, [], _, _, h => h.elim
theorem Ty.length : ∀ {s : St} {t : Tys} {G : Hp}, Ty s t G → s.length = t.length
  | [], [], _, _ => rfl
  | _ :: _, _ :: _, _, h => congrArg Nat.succ (Ty.length h.2)
  | [], _ :: _, _, h => h.elim
  | _ :: _, [], _, h => h.elim
/-- what a slot's value is, told better -/
theorem Ty.tell : ∀ {s : St} {t : Tys} {G : Hp} {i : Nat} {v : V} {R : Rp}, Ty s t G → s[i]? = some (some v) → R.p v G → Ty s (t.set i (some R)) G
  | [], [], _, _, _, _, _, e, _ => by simp at e
  | o :: s, g :: t, G, 0, v, R, h, e, k => by
    simp at e
    exact ⟨⟨v, e, k⟩, h.2⟩
  | o :: s, g :: t, G, i + 1, v, R, h, e, k => ⟨h.1, Ty.tell (i := i) h.2 (by simpa using e) k⟩
  | [], _ :: _, _, _, _, _, h, _, _ => h.elim
  | _ :: _, [], _, _, _, _, h, _, _ => h.elim
theorem Ty.wipe {s : St} {t : Tys} {G : Hp} (h : Ty s t G) : ∀ (vs : List Nat), Ty (L2.wipe s vs) (vs.foldr (fun i t => t.set i none) t) G
  | [] => h
  | v :: vs => Ty.unset v (Ty.wipe h vs)
end Rz
set_option Elab.async false
set_option linter.all false
set_option maxRecDepth 100000
set_option maxHeartbeats 2000000
/-! Rz2: readings that give a typed value: expressions, tests, arguments, operators and calls by values. Own work. -/
namespace Rz
open PySem L2

abbrev Kont (X : List Addr) (G H : Hp) (R : Rp) (Q : VK) : Prop := ∀ v G' H', Step X G H G' H' → R.p v G' → Q v H'
def EvT (t : Tys) (O : Os) (te : TE) (R : Rp) : Prop := ∀ s G H, Ty s t G → RO O G H → Sub G H → ∀ Q : VK, Kont [] G H R Q → te s H Q
def EvA (t : Tys) (O : Os) (ta : TA) (Rs : List Rp) : Prop := ∀ s G H, Ty s t G → RO O G H → Sub G H → ∀ Q : List V → Hp → Prop, (∀ vs G' H', Step [] G H G' H' → All2 vs Rs G' → Q vs H') → ta s H Q
def EvB (t : Tys) (O : Os) (tt : TT) (b : Bool) : Prop := ∀ s G H, Ty s t G → RO O G H → Sub G H → ∀ Q : Bool → Hp → Prop, (∀ G' H', Step [] G H G' H' → Q b H') → tt s H Q
def VO (O : Os) (r : R2) (Ra Rb R : Rp) : Prop := ∀ G H x y, Ra.p x G → Rb.p y G → RO O G H → Sub G H → ∀ Q : VK, Kont [] G H R Q → r x y H Q
def VC (O : Os) (r : List V → Hp → VK → Prop) (Rs : List Rp) (R : Rp) : Prop := ∀ G H vs, All2 vs Rs G → RO O G H → Sub G H → ∀ Q : VK, Kont [] G H R Q → r vs H Q
def VU (O : Os) (r : V → Hp → VK → Prop) (Ra R : Rp) : Prop := ∀ G H x, Ra.p x G → RO O G H → Sub G H → ∀ Q : VK, Kont [] G H R Q → r x H Q

section
variable {K : PySem.W.Frag} {t : Tys} {O : Os} {ta tb tc te : TE} {tt tu : TT} {Ra Rb R R' : Rp} {r : R2}

/-! ### plumbing -/
theorem EvT.sub (h : EvT t O te R) (k : ∀ v G, R.p v G → R'.p v G) : EvT t O te R' := fun s G H T o sb Q q => h s G H T o sb Q fun v G' H' st hv => q v G' H' st (k v G' hv)
theorem EvT.to (h : EvT t O te R) (e : R = R') : EvT t O te R' := e ▸ h
theorem EvB.to {b b' : Bool} (h : EvB t O tt b) (e : b = b') : EvB t O tt b' := e ▸ h
theorem EvT.mem {O' : Os} (h : EvT t O te R) (m : ∀ e ∈ O, e ∈ O') : EvT t O' te R := fun s G H T o sb Q q => h s G H T (fun e he => o e (m e he)) sb Q q
theorem ev_var {i : Nat} (h : t[i]? = some (some R)) : EvT t O (tVar i) R := fun s G H T _ sb Q q => by
  obtain ⟨v, e, hv⟩ := T.get h
  exact ⟨v, e, q v G H (Step.refl sb) hv⟩
theorem ev_c {v : V} : EvT t O (tC v) (rIs v) := fun _ G H _ _ sb _ q => q v G H (Step.refl sb) rfl
theorem ev_op (ha : EvT t O ta Ra) (hb : EvT t O tb Rb) (hr : VO O r Ra Rb R) : EvT t O (tOp r ta tb) R := fun s G H T o sb Q q =>
  ha s G H T o sb _ fun x G1 H1 s1 hx => hb s G1 H1 (T.mono s1.gg) (o.step s1.gg s1.ex) s1.sub _ fun y G2 H2 s2 hy =>
    hr G2 H2 x y (Ra.mono _ _ _ s2.gg hx) hy ((o.step s1.gg s1.ex).step s2.gg s2.ex) s2.sub _ fun v G3 H3 s3 hv => q v G3 H3 ((s1.trans s2).trans s3) hv
theorem ev_un {r : V → Hp → VK → Prop} (ha : EvT t O ta Ra) (hr : VU O r Ra R) : EvT t O (tUn r ta) R := fun s G H T o sb Q q =>
  ha s G H T o sb _ fun x G1 H1 s1 hx => hr G1 H1 x hx (o.step s1.gg s1.ex) s1.sub _ fun v G3 H3 s3 hv => q v G3 H3 (s1.trans s3) hv
theorem ea_nil : EvA t O tNil [] := fun _ G H _ _ sb _ q => q [] G H (Step.refl sb) trivial
theorem ea_cons {tr : TA} {Rs : List Rp} (ha : EvT t O ta Ra) (hr : EvA t O tr Rs) : EvA t O (tCons ta tr) (Ra :: Rs) := fun s G H T o sb Q q =>
  ha s G H T o sb _ fun x G1 H1 s1 hx => hr s G1 H1 (T.mono s1.gg) (o.step s1.gg s1.ex) s1.sub _ fun xs G2 H2 s2 hxs =>
    q (x :: xs) G2 H2 (s1.trans s2) ⟨Ra.mono _ _ _ s2.gg hx, hxs⟩
theorem ev_cb {r : List V → Hp → VK → Prop} {tr : TA} {Rs : List Rp} (ha : EvA t O tr Rs) (hr : VC O r Rs R) : EvT t O (tCB r tr) R := fun s G H T o sb Q q =>
  ha s G H T o sb _ fun x G1 H1 s1 hx => hr G1 H1 x hx (o.step s1.gg s1.ex) s1.sub _ fun v G3 H3 s3 hv => q v G3 H3 (s1.trans s3) hv
theorem ev_tup {tr : TA} {Rs : List Rp} (ha : EvA t O tr Rs) (hl : Rs.length ≤ sizeLine := by first | decide | (simp only [List.length_cons, List.length_nil]; decide)) : EvT t O (tTup tr) (rTup Rs) := fun s G H T o sb Q q =>
  ha s G H T o sb _ fun xs G1 H1 s1 hx => ⟨by rw [hx.length]; exact hl, fun p hp => q _ _ _ (s1.trans (Step.new s1.sub hp)) ⟨p, xs, rfl, upd_same, hx.mono (Ex.new (s1.sub.none hp))⟩⟩
theorem ev_lst {tr : TA} {Rs : List Rp} (ha : EvA t O tr Rs) (hl : Rs.length ≤ sizeLine := by first | decide | (simp only [List.length_cons, List.length_nil]; decide)) : EvT t O (tLst tr) (rLst Rs) := fun s G H T o sb Q q =>
  ha s G H T o sb _ fun xs G1 H1 s1 hx => ⟨by rw [hx.length]; exact hl, fun p hp => q _ _ _ (s1.trans (Step.new s1.sub hp)) ⟨p, xs, rfl, upd_same, hx.mono (Ex.new (s1.sub.none hp))⟩⟩
theorem eb_test {b : Bool} (h : EvT t O te (rBl b)) : EvB t O (tTest te) b := fun s G H T o sb Q q => h s G H T o sb _ fun _ G' H' st hv => ⟨b, hv, q G' H' st⟩
theorem eb_b {b : Bool} (h : EvT t O te (rBl b)) : EvB t O (tB te) b := fun s G H T o sb Q q => h s G H T o sb _ fun _ G' H' st hv => ⟨b, hv, q G' H' st⟩
theorem eb_not {b : Bool} (h : EvB t O tt b) : EvB t O (tNot tt) (!b) := fun s G H T o sb Q q => h s G H T o sb _ fun G' H' st => q G' H' st
theorem eb_and {a b : Bool} (h1 : EvB t O tt a) (h2 : a = true → EvB t O tu b) : EvB t O (tAnd tt tu) (a && b) := fun s G H T o sb Q q => h1 s G H T o sb _ fun G1 H1 s1 => by
  cases a with
  | true => exact iteT (h2 rfl s G1 H1 (T.mono s1.gg) (o.step s1.gg s1.ex) s1.sub _ fun G2 H2 s2 => q G2 H2 (s1.trans s2))
  | false => exact iteF (q G1 H1 s1)
theorem eb_or {a b : Bool} (h1 : EvB t O tt a) (h2 : a = false → EvB t O tu b) : EvB t O (tOr tt tu) (a || b) := fun s G H T o sb Q q => h1 s G H T o sb _ fun G1 H1 s1 => by
  cases a with
  | false => exact iteF (h2 rfl s G1 H1 (T.mono s1.gg) (o.step s1.gg s1.ex) s1.sub _ fun G2 H2 s2 => q G2 H2 (s1.trans s2))
  | true => exact iteT (q G1 H1 s1)
theorem ev_and {a b : Bool} (h1 : EvT t O ta (rBl a)) (h2 : a = true → EvT t O tb (rBl b)) : EvT t O (tAndV ta tb) (rBl (a && b)) := fun s G H T o sb Q q => h1 s G H T o sb _ fun x G1 H1 s1 hx => ⟨a, hx, by
  cases a with
  | true => exact iteT (h2 rfl s G1 H1 (T.mono s1.gg) (o.step s1.gg s1.ex) s1.sub _ fun v G2 H2 s2 hv => q v G2 H2 (s1.trans s2) hv)
  | false => exact iteF (q _ G1 H1 s1 rfl)⟩
theorem ev_or {a b : Bool} (h1 : EvT t O ta (rBl a)) (h2 : a = false → EvT t O tb (rBl b)) : EvT t O (tOrV ta tb) (rBl (a || b)) := fun s G H T o sb Q q => h1 s G H T o sb _ fun x G1 H1 s1 hx => ⟨a, hx, by
  cases a with
  | false => exact iteF (h2 rfl s G1 H1 (T.mono s1.gg) (o.step s1.gg s1.ex) s1.sub _ fun v G2 H2 s2 hv => q v G2 H2 (s1.trans s2) hv)
  | true => exact iteT (q _ G1 H1 s1 rfl)⟩
theorem ev_not {a : Bool} (h1 : EvT t O ta (rBl a)) : EvT t O (tNotV ta) (rBl (!a)) := fun s G H T o sb Q q => h1 s G H T o sb _ fun x G1 H1 s1 hx => ⟨a, hx, q _ G1 H1 s1 rfl⟩
theorem ev_if {b : Bool} (hc : EvB t O tt b) (h1 : b = true → EvT t O ta R) (h2 : b = false → EvT t O tb R) : EvT t O (tIf tt ta tb) R := fun s G H T o sb Q q => hc s G H T o sb _ fun G1 H1 s1 => by
  cases b with
  | true => exact iteT (h1 rfl s G1 H1 (T.mono s1.gg) (o.step s1.gg s1.ex) s1.sub _ fun v G2 H2 s2 hv => q v G2 H2 (s1.trans s2) hv)
  | false => exact iteF (h2 rfl s G1 H1 (T.mono s1.gg) (o.step s1.gg s1.ex) s1.sub _ fun v G2 H2 s2 hv => q v G2 H2 (s1.trans s2) hv)
theorem VO.val (h : ∀ G H x y, Ra.p x G → Rb.p y G → RO O G H → Sub G H → ∃ v, (∀ Q : VK, Q v H → r x y H Q) ∧ R.p v G) : VO O r Ra Rb R := fun G H x y hx hy o sb Q q => by
  obtain ⟨v, h1, h2⟩ := h G H x y hx hy o sb
  exact h1 Q (q v G H (Step.refl sb) h2)
theorem VC.val {r : List V → Hp → VK → Prop} {Rs : List Rp} (h : ∀ G H vs, All2 vs Rs G → RO O G H → Sub G H → ∃ v, (∀ Q : VK, Q v H → r vs H Q) ∧ R.p v G) : VC O r Rs R := fun G H vs hx o sb Q q => by
  obtain ⟨v, h1, h2⟩ := h G H vs hx o sb
  exact h1 Q (q v G H (Step.refl sb) h2)

/-! ### operators -/
theorem vo_I0 {g : Int → Int → V} {i j : Int} : VO O (rI0 g) (rInt i) (rInt j) (rIs (g i j)) := VO.val fun _ _ _ _ hx hy _ _ => ⟨_, fun _ q => ⟨i, j, hx, hy, q⟩, rfl⟩
theorem vo_I {C : Int → Int → Prop} {g : Int → Int → V} {i j : Int} (hc : C i j) : VO O (rI C g) (rInt i) (rInt j) (rIs (g i j)) := VO.val fun _ _ _ _ hx hy _ _ => ⟨_, fun _ q => ⟨i, j, hx, hy, hc, q⟩, rfl⟩
theorem vu_I {g : Int → V} {i : Int} : VU O (rU g) (rInt i) (rIs (g i)) := fun G H x hx _ sb Q q => ⟨i, hx, q _ G H (Step.refl sb) rfl⟩
theorem vo_eq {x y : V} (h : scal x y = true) : VO O rEq (rIs x) (rIs y) (rBl (decide (x = y))) := VO.val fun _ _ u v hx hy _ _ => by
  have e1 : u = x := hx
  have e2 : v = y := hy
  subst e1 e2
  exact ⟨_, fun _ q => ⟨h, q⟩, rfl⟩
theorem vo_ne {x y : V} (h : scal x y = true) : VO O rNe (rIs x) (rIs y) (rBl (!decide (x = y))) := VO.val fun _ _ u v hx hy _ _ => by
  have e1 : u = x := hx
  have e2 : v = y := hy
  subst e1 e2
  exact ⟨_, fun _ q => ⟨h, q⟩, rfl⟩
theorem dec_int (i j : Int) : decide ((V.int i) = V.int j) = decide (i = j) := by
  by_cases h : i = j
  · subst h; simp
  · rw [decide_eq_false h, decide_eq_false (fun e => h (V.int.inj e))]
theorem vo_eqI {i j : Int} : VO O rEq (rInt i) (rInt j) (rBl (decide (i = j))) := by
  have h := vo_eq (O := O) (x := .int i) (y := .int j) rfl
  rw [dec_int] at h; exact h
theorem vo_neI {i j : Int} : VO O rNe (rInt i) (rInt j) (rBl (!decide (i = j))) := by
  have h := vo_ne (O := O) (x := .int i) (y := .int j) rfl
  rw [dec_int] at h; exact h
theorem inV_int (i : Int) (ns : List Int) : inV (.int i) (ns.map V.int) = decide (i ∈ ns) := by
  induction ns with
  | nil => rfl
  | cons n r ih =>
    show (eqV (.int n) (.int i) || inV (.int i) (r.map V.int)) = _
    rw [ih]
    show ((n == i) || decide (i ∈ r)) = _
    by_cases h : n = i
    · subst h; simp
    · have h' : ¬ i = n := fun e => h e.symm
      simp [h, h']
theorem flat_ints (ns : List Int) : (ns.map V.int).all flatV = true := by
  induction ns with
  | nil => rfl
  | cons n r ih => show (true && (r.map V.int).all flatV) = true; rw [ih]; rfl
theorem vo_inT {i : Int} {ns : List Int} {neg : Bool} : VO O (rIn K neg) (rInt i) (rTI ns) (rBl (if neg = true then !decide (i ∈ ns) else decide (i ∈ ns))) := VO.val fun G H x y hx hy _ sb => by
  obtain ⟨a, rfl, ha⟩ := rTI_at hy
  have e : x = .int i := hx
  subst e
  exact ⟨_, fun _ q => ⟨a, _, rfl, .inr (sb.tup ha), rfl, flat_ints ns, by rw [inV_int]; exact q⟩, rfl⟩
theorem vo_inL {i : Int} {ns : List Int} {neg : Bool} : VO O (rIn K neg) (rInt i) (rLI ns) (rBl (if neg = true then !decide (i ∈ ns) else decide (i ∈ ns))) := VO.val fun G H x y hx hy _ sb => by
  obtain ⟨a, rfl, ha⟩ := rLI_at hy
  have e : x = .int i := hx
  subst e
  exact ⟨_, fun _ q => ⟨a, _, rfl, .inl (sb.lst ha), rfl, flat_ints ns, by rw [inV_int]; exact q⟩, rfl⟩
/-- i in xs, i not in xs -/
theorem vo_isT {i : Int} {ns : List Int} : VO O (rIn K false) (rInt i) (rTI ns) (rBl (decide (i ∈ ns))) := vo_inT (neg := false)
theorem vo_niT {i : Int} {ns : List Int} : VO O (rIn K true) (rInt i) (rTI ns) (rBl (!decide (i ∈ ns))) := vo_inT (neg := true)
theorem vo_isL {i : Int} {ns : List Int} : VO O (rIn K false) (rInt i) (rLI ns) (rBl (decide (i ∈ ns))) := vo_inL (neg := false)
theorem vo_niL {i : Int} {ns : List Int} : VO O (rIn K true) (rInt i) (rLI ns) (rBl (!decide (i ∈ ns))) := vo_inL (neg := true)
theorem vo_ixT {Rs : List Rp} {i : Int} {j : Nat} (e : i = (j : Int)) (h : Rs[j]? = some R) : VO O (rIxT K) (rTup Rs) (rInt i) R := VO.val fun G H x y hx hy _ sb => by
  obtain ⟨a, vs, rfl, ha, h2⟩ := hx
  obtain ⟨v, h3, h4⟩ := h2.get h
  exact ⟨v, fun _ q => ⟨a, vs, i, v, rfl, hy, sb.tup ha, at_of e h3, q⟩, h4⟩
theorem vo_ixL {Rs : List Rp} {i : Int} {j : Nat} (e : i = (j : Int)) (h : Rs[j]? = some R) : VO O (rIxL K) (rLst Rs) (rInt i) R := VO.val fun G H x y hx hy _ sb => by
  obtain ⟨a, vs, rfl, ha, h2⟩ := hx
  obtain ⟨v, h3, h4⟩ := h2.get h
  exact ⟨v, fun _ q => ⟨a, vs, i, v, rfl, hy, sb.lst ha, at_of e h3, q⟩, h4⟩

/-! ### objects as they are now -/
theorem RO.lst {G H : Hp} {p : Addr} {Rs : List Rp} (o : RO O G H) (m : (p, OC.lst Rs) ∈ O) : ∃ vs, H p = some (.lst vs) ∧ All2 vs Rs G := by
  obtain ⟨u, h1, h2⟩ := o _ m
  cases u with
  | lst vs => exact ⟨vs, h1, h2⟩
  | _ => exact h2.elim
/-- the dict at p, locked or not -/
def HasK (O : Os) (p : Addr) (r : List (Key × Rp)) : Prop := (p, OC.dK r) ∈ O ∨ ∃ od l, (p, OC.lkK od l r) ∈ O
def HasT (O : Os) (p : Addr) (r : List (List Key × Rp)) : Prop := (p, OC.dT r) ∈ O ∨ ∃ od l, (p, OC.lkT od l r) ∈ O
theorem RO.dK {G H : Hp} {p : Addr} {r : List (Key × Rp)} (o : RO O G H) (m : HasK O p r) : ∃ l, Rd H p (.dK l) ∧ AllK l r G := by
  rcases m with m | ⟨od, l0, m⟩
  · obtain ⟨u, h1, h2⟩ := o _ m
    cases u with
    | dK l => exact ⟨l, .inl h1, h2⟩
    | _ => exact h2.elim
  · obtain ⟨u, h1, h2⟩ := o _ m
    cases u with
    | frz od' u =>
      cases u with
      | dK l => exact ⟨l, .inr ⟨_, h1⟩, h2.2⟩
      | _ => exact h2.elim
    | _ => exact h2.elim
theorem RO.dT {G H : Hp} {p : Addr} {r : List (List Key × Rp)} (o : RO O G H) (m : HasT O p r) : ∃ l, Rd H p (.dT l) ∧ AllK l r G := by
  rcases m with m | ⟨od, l0, m⟩
  · obtain ⟨u, h1, h2⟩ := o _ m
    cases u with
    | dT l => exact ⟨l, .inl h1, h2⟩
    | _ => exact h2.elim
  · obtain ⟨u, h1, h2⟩ := o _ m
    cases u with
    | frz od' u =>
      cases u with
      | dT l => exact ⟨l, .inr ⟨_, h1⟩, h2.2⟩
      | _ => exact h2.elim
    | _ => exact h2.elim
theorem vo_ixO {Rs : List Rp} {p : Addr} {i : Int} {j : Nat} (m : (p, OC.lst Rs) ∈ O) (e : i = (j : Int)) (h : Rs[j]? = some R) : VO O (rIxL K) (rRef p) (rInt i) R := VO.val fun G H x y hx hy o sb => by
  obtain ⟨vs, ha, h2⟩ := o.lst m
  obtain ⟨v, h3, h4⟩ := h2.get h
  exact ⟨v, fun _ q => ⟨p, vs, i, v, hx, hy, SqL.of ha, at_of e h3, q⟩, h4⟩

/-! ### built-in calls -/
theorem vc_lenT {Rs : List Rp} : VC O (fun xs H Q => ∃ p ys, xs = [.ref p] ∧ (SqL K H p ys ∨ SqT K H p ys) ∧ Q (.int ys.length) H) [rTup Rs] (rInt Rs.length) := VC.val fun G H vs hx _ sb => by
  match vs, hx with
  | [v], hx =>
    obtain ⟨⟨a, ys, rfl, ha, h2⟩, _⟩ := hx
    exact ⟨_, fun _ q => ⟨a, ys, rfl, .inr (sb.tup ha), q⟩, by rw [h2.length]; rfl⟩
theorem vc_lenL {Rs : List Rp} : VC O (fun xs H Q => ∃ p ys, xs = [.ref p] ∧ (SqL K H p ys ∨ SqT K H p ys) ∧ Q (.int ys.length) H) [rLst Rs] (rInt Rs.length) := VC.val fun G H vs hx _ sb => by
  match vs, hx with
  | [v], hx =>
    obtain ⟨⟨a, ys, rfl, ha, h2⟩, _⟩ := hx
    exact ⟨_, fun _ q => ⟨a, ys, rfl, .inl (sb.lst ha), q⟩, by rw [h2.length]; rfl⟩
theorem vc_lenO {Rs : List Rp} {p : Addr} (m : (p, OC.lst Rs) ∈ O) : VC O (fun xs H Q => ∃ p ys, xs = [.ref p] ∧ (SqL K H p ys ∨ SqT K H p ys) ∧ Q (.int ys.length) H) [rRef p] (rInt Rs.length) := VC.val fun G H vs hx o sb => by
  match vs, hx with
  | [v], hx =>
    obtain ⟨e, _⟩ := hx
    have e : v = .ref p := e
    subst e
    obtain ⟨ys, ha, h2⟩ := o.lst m
    exact ⟨_, fun _ q => ⟨p, ys, rfl, .inl (SqL.of ha), q⟩, by rw [h2.length]; rfl⟩
/-- list(x), tuple(x) -/
theorem vc_listT {Rs : List Rp} : VC O (fun xs H Q => ∃ p ys, xs = [.ref p] ∧ (SqL K H p ys ∨ SqT K H p ys) ∧ ∀ l, H l = none → Q (.ref l) (upd H l (.lst ys))) [rTup Rs] (rLst Rs) := fun G H vs hx _ sb Q q => by
  match vs, hx with
  | [v], hx =>
    obtain ⟨⟨a, ys, rfl, ha, h2⟩, _⟩ := hx
    exact ⟨a, ys, rfl, .inr (sb.tup ha), fun l hl => q _ _ _ (Step.new sb hl) ⟨l, ys, rfl, upd_same, h2.mono (Ex.new (sb.none hl))⟩⟩
theorem vc_listL {Rs : List Rp} : VC O (fun xs H Q => ∃ p ys, xs = [.ref p] ∧ (SqL K H p ys ∨ SqT K H p ys) ∧ ∀ l, H l = none → Q (.ref l) (upd H l (.lst ys))) [rLst Rs] (rLst Rs) := fun G H vs hx _ sb Q q => by
  match vs, hx with
  | [v], hx =>
    obtain ⟨⟨a, ys, rfl, ha, h2⟩, _⟩ := hx
    exact ⟨a, ys, rfl, .inl (sb.lst ha), fun l hl => q _ _ _ (Step.new sb hl) ⟨l, ys, rfl, upd_same, h2.mono (Ex.new (sb.none hl))⟩⟩
theorem vc_tupleL {Rs : List Rp} : VC O (fun xs H Q => ∃ p ys, xs = [.ref p] ∧ ((SqL K H p ys ∧ ∀ l, H l = none → Q (.ref l) (upd H l (.tup ys))) ∨ (SqT K H p ys ∧ Q (.ref p) H))) [rLst Rs] (rTup Rs) := fun G H vs hx _ sb Q q => by
  match vs, hx with
  | [v], hx =>
    obtain ⟨⟨a, ys, rfl, ha, h2⟩, _⟩ := hx
    exact ⟨a, ys, rfl, .inl ⟨sb.lst ha, fun l hl => q _ _ _ (Step.new sb hl) ⟨l, ys, rfl, upd_same, h2.mono (Ex.new (sb.none hl))⟩⟩⟩
theorem vc_tupleT {Rs : List Rp} : VC O (fun xs H Q => ∃ p ys, xs = [.ref p] ∧ ((SqL K H p ys ∧ ∀ l, H l = none → Q (.ref l) (upd H l (.tup ys))) ∨ (SqT K H p ys ∧ Q (.ref p) H))) [rTup Rs] (rTup Rs) := fun G H vs hx _ sb Q q => by
  match vs, hx with
  | [v], hx =>
    obtain ⟨⟨a, ys, rfl, ha, h2⟩, _⟩ := hx
    exact ⟨a, ys, rfl, .inr ⟨sb.tup ha, q _ _ _ (Step.refl sb) ⟨a, ys, rfl, ha, h2⟩⟩⟩
theorem vc_abs {i : Int} : VC O (fun xs H Q => ∃ i, xs = [.int i] ∧ Q (.int (if i < 0 then -i else i)) H) [rInt i] (rInt (if i < 0 then -i else i)) := VC.val fun G H vs hx _ sb => by
  match vs, hx with
  | [v], hx => exact ⟨_, fun _ q => ⟨i, by rw [hx.1], q⟩, rfl⟩
theorem vc_max2 {i j : Int} : VC O (fun xs H Q => ∃ i j, xs = [.int i, .int j] ∧ Q (.int (if j > i then j else i)) H) [rInt i, rInt j] (rInt (if j > i then j else i)) := VC.val fun G H vs hx _ sb => by
  match vs, hx with
  | [v, w], hx => exact ⟨_, fun _ q => ⟨i, j, by rw [hx.1, hx.2.1], q⟩, rfl⟩
theorem vc_min2 {i j : Int} : VC O (fun xs H Q => ∃ i j, xs = [.int i, .int j] ∧ Q (.int (if j < i then j else i)) H) [rInt i, rInt j] (rInt (if j < i then j else i)) := VC.val fun G H vs hx _ sb => by
  match vs, hx with
  | [v, w], hx => exact ⟨_, fun _ q => ⟨i, j, by rw [hx.1, hx.2.1], q⟩, rfl⟩
theorem vc_int {i : Int} : VC O (fun xs H Q => (∃ i, xs = [.int i] ∧ Q (.int i) H) ∨ ∃ k, xs = [.bl k] ∧ Q (.int (if k then 1 else 0)) H) [rInt i] (rInt i) := VC.val fun G H vs hx _ sb => by
  match vs, hx with
  | [v], hx => exact ⟨_, fun _ q => .inl ⟨i, by rw [hx.1], q⟩, rfl⟩
theorem vc_sum {ns : List Int} : VC O (rSum K) [rLI ns] (rInt ns.sum) := VC.val fun G H vs hx _ sb => by
  match vs, hx with
  | [v], hx =>
    obtain ⟨a, rfl, ha⟩ := rLI_at hx.1
    exact ⟨_, fun _ q => ⟨a, ns, rfl, sb.lst ha, q⟩, rfl⟩
theorem vc_all {bs : List Bool} : VC O (rAll K) [rLst (bs.map fun b => rIs (.bl b))] (rBl (bs.all id)) := VC.val fun G H vs hx _ sb => by
  match vs, hx with
  | [v], hx =>
    obtain ⟨⟨a, ys, rfl, ha, h2⟩, _⟩ := hx
    rw [h2.eqs] at ha
    exact ⟨_, fun _ q => ⟨a, bs, rfl, sb.lst ha, q⟩, rfl⟩
/-- the least of a list of ints -/
def rLeast (ns : List Int) : Rp := rEx (fun m => m ∈ ns ∧ ∀ y, y ∈ ns → m ≤ y) fun m => rInt m
theorem vc_min {ns : List Int} (h : 0 < ns.length) : VC O (rMin K) [rLI ns] (rLeast ns) := fun G H vs hx _ sb Q q => by
  match vs, hx with
  | [v], hx =>
    obtain ⟨a, rfl, ha⟩ := rLI_at hx.1
    exact ⟨a, ns, rfl, sb.lst ha, h, fun m h1 h2 => q _ _ _ (Step.refl sb) ⟨m, ⟨h1, h2⟩, rfl⟩⟩
/-- a rearrangement, rising -/
def Rise (ns ns' : List Int) : Prop := ns'.Perm ns ∧ ns'.Pairwise (· ≤ ·)
theorem vc_sortedI {ns : List Int} : VC O (rSortedI K) [rLI ns] (rEx (Rise ns) fun ns' => rLI ns') := fun G H vs hx _ sb Q q => by
  match vs, hx with
  | [v], hx =>
    obtain ⟨a, rfl, ha⟩ := rLI_at hx.1
    exact ⟨a, ns, rfl, sb.lst ha, fun ns' p h1 h2 hp => q _ _ _ (Step.new sb hp) ⟨ns', ⟨h1, h2⟩, rLI_of upd_same⟩⟩
/-- through an unknown -/
theorem VC.ex {β : Type} {P : β → Prop} {Ra Rr : β → Rp} {r : List V → Hp → VK → Prop} (h : ∀ b, P b → VC O r [Ra b] (Rr b)) : VC O r [rEx P Ra] (rEx P Rr) := fun G H vs hx o sb Q q => by
  match vs, hx with
  | [v], hx =>
    obtain ⟨⟨b, hb, hv⟩, _⟩ := hx
    exact h b hb G H [v] ⟨hv, trivial⟩ o sb Q fun w G' H' st hw => q w G' H' st ⟨b, hb, hw⟩
end

/-! ### isinstance -/
def HasTy (K : PySem.W.Frag) (R : Rp) (n : String) : Prop := ∀ v G H, R.p v G → Sub G H → TyX K H v (.type n)
section
variable {K : PySem.W.Frag} {O : Os} {R : Rp}
theorem ty_int {i : Int} : HasTy K (rInt i) "int" := fun v _ _ h _ => by
  have e : v = .int i := h
  subst e; exact .base (.int i)
theorem ty_bl {b : Bool} : HasTy K (rBl b) "bool" := fun v _ _ h _ => by
  have e : v = .bl b := h
  subst e; exact .base (.bl b)
theorem ty_non : HasTy K rNon "NoneType" := fun v _ _ h _ => by
  have e : v = .non := h
  subst e; exact .base .non
theorem ty_tup {Rs : List Rp} : HasTy K (rTup Rs) "tuple" := fun v G H h sb => by
  obtain ⟨a, vs, rfl, ha, _⟩ := h
  exact .base (.tup (sb.at_ ha rfl))
theorem ty_lst {Rs : List Rp} : HasTy K (rLst Rs) "list" := fun v G H h sb => by
  obtain ⟨a, vs, rfl, ha, _⟩ := h
  exact .base (.lst (sb.at_ ha rfl))
theorem vc_isi {n m : String} {b : Bool} (h : HasTy K R n) (hb : kitB n m = some b) : VC O (rIsi K) [R, rIs (.ty m)] (rBl b) := VC.val fun G H vs hx _ sb => by
  match vs, hx with
  | [v, w], hx =>
    have e : w = .ty m := hx.2.1
    subst e
    exact ⟨_, fun _ q => ⟨v, .ty m, _, _, b, rfl, .ty m, h v G H hx.1 sb, kit_ty hb, q⟩, rfl⟩
theorem vc_isi2 {n m1 m2 : String} {b1 b2 : Bool} (h : HasTy K R n) (h1 : kitB n m1 = some b1) (h2 : kitB n m2 = some b2) : VC O (rIsiT K) [R, rTup [rIs (.ty m1), rIs (.ty m2)]] (rBl (b1 || b2)) := VC.val fun G H vs hx _ sb => by
  match vs, hx with
  | [v, w], hx =>
    obtain ⟨hv, ⟨a, ys, rfl, ha, h3⟩, _⟩ := hx
    match ys, h3 with
    | [y1, y2], h3 =>
      obtain ⟨e1, e2, _⟩ := h3
      have e1 : y1 = .ty m1 := e1
      have e2 : y2 = .ty m2 := e2
      subst e1 e2
      refine ⟨_, fun _ q => ⟨v, a, [.ty m1, .ty m2], _, [.type m1, .type m2], b1 || b2, rfl, sb.at_ ha rfl, .cons (.ty m1) (.cons (.ty m2) .nil), h v G H hv sb, ?_, q⟩, rfl⟩
      refine kitAny_cons (kit_ty h1) (fun e => ?_) (fun e => by rw [e]; rfl)
      rw [e]
      refine kitAny_cons (kit_ty h2) (fun e2 => ?_) (fun e2 => by rw [e2]; rfl)
      rw [e2]; rfl
end
end Rz
set_option Elab.async false
set_option linter.all false
set_option maxRecDepth 100000
set_option maxHeartbeats 2000000
/-! Rz3: promises, calls, statements as typed triples, loops, comprehensions. Own work. -/
namespace Rz
open PySem L2

/-! ### promises -/
/-- called with values that stand for Rs x, it gives one that stands for R x, and changes nothing -/
def Prm {α : Type} (Rs : α → List Rp) (O : α → Os) (pre : α → Prop) (R : α → Rp) : Sp := fun vs H Q _ => ∃ x G, pre x ∧ All2 vs (Rs x) G ∧ RO (O x) G H ∧ Sub G H ∧ Kont [] G H (R x) Q
section
variable {K : PySem.W.Frag} {t : Tys} {O : Os} {ta tb tc te : TE} {tt tu : TT} {Ra Rb R R' : Rp} {r : R2}
theorem ev_call {α : Type} {Rs : α → List Rp} {Oa : α → Os} {pre : α → Prop} {Rr : α → Rp} {E : XK} {tr : TA} (x : α) (ha : EvA t O tr (Rs x)) (hp : pre x) (ho : ∀ e ∈ Oa x, e ∈ O := by simp) : EvT t O (tCall (Prm Rs Oa pre Rr) [] E tr) (Rr x) := fun s G H T o sb Q q =>
  ha s G H T o sb _ fun vs G1 H1 s1 hvs => by
    refine ⟨x, G1, hp, by rw [List.append_nil]; exact hvs, fun e he => (o.step s1.gg s1.ex) e (ho e he), s1.sub, fun v G' H' st hv => q v G' H' (s1.trans st) hv⟩
theorem ev_callN {α : Type} {Rs : α → List Rp} {Oa : α → Os} {pre : α → Prop} {Rr : α → Rp} {E : XK} {tr tk : TA} {n m : Nat} {gV : List V → List V → List V} {Rv Rk : List Rp} (x : α) (ha : EvA t O tr Rv) (hk : EvA t O tk Rk) (hn : Rv.length = n) (hm : Rk.length = m)
    (hg : ∀ vs zs G, All2 vs Rv G → All2 zs Rk G → All2 (gV vs zs) (Rs x) G) (hp : pre x) (ho : ∀ e ∈ Oa x, e ∈ O := by simp) : EvT t O (tCallN n m (Prm Rs Oa pre Rr) gV E tr tk) (Rr x) := fun s G H T o sb Q q =>
  ha s G H T o sb _ fun vs G1 H1 s1 hvs => hk s G1 H1 (T.mono s1.gg) (o.step s1.gg s1.ex) s1.sub _ fun zs G2 H2 s2 hzs =>
    ⟨hvs.length.trans hn, hzs.length.trans hm, x, G2, hp, hg vs zs G2 (hvs.mono s2.gg) hzs, fun e he => ((o.step s1.gg s1.ex).step s2.gg s2.ex) e (ho e he), s2.sub, fun v G' H' st hv => q v G' H' ((s1.trans s2).trans st) hv⟩
end

/-! ### where a body stands -/
structure Bs where
  G : Hp
  H : Hp
  X : List Addr
/-- W: own new objects that may still change; Y: objects from outside that may be changed -/
structure AtG (Y : List Addr) (b : Bs) (t : Tys) (O : Os) (W : List Addr) (s : St) (H G : Hp) : Prop where
  ty : Ty s t G
  ro : RO O G H
  st : Step b.X b.G b.H G H
  w : ∀ a ∈ W, G a = none ∧ (∃ o, H a = some o ∧ Mut (some o)) ∧ b.H a = none
  y : ∀ a ∈ Y, G a = none ∧ (∃ o, H a = some o ∧ Mut (some o)) ∧ a ∈ b.X ∧ b.H a ≠ none
  nd : (O.map (·.1)).Nodup
def At (Y : List Addr) (b : Bs) (t : Tys) (O : Os) (W : List Addr) (s : St) (H : Hp) : Prop := ∃ G, AtG Y b t O W s H G
abbrev Nxt := Tys → Os → List Addr → Prop
abbrev Rts := Rp → Os → List Addr → Prop
/-- from t, O, W the statements come to what Nx holds, or return what Rt holds -/
def HT (Y : List Addr) (t : Tys) (O : Os) (W : List Addr) (ts : TS) (Nx : Nxt) (Rt : Rts) : Prop := ∀ (b : Bs) (s : St) (H : Hp), At Y b t O W s H → ∀ D : Ends,
  (∀ t' O' W' s' H', Nx t' O' W' → At Y b t' O' W' s' H' → D.nx s' H') → (∀ R O' W' v G' H', Rt R O' W' → Step b.X b.G b.H G' H' → R.p v G' → RO O' G' H' → (∀ a ∈ W', G' a = none ∧ b.H a = none) → D.rt v H') → ts D s H

section
variable {K : PySem.W.Frag} {Y : List Addr} {t t' : Tys} {O O' : Os} {W W' : List Addr} {te ta tb tl : TE} {tt : TT} {ts tu tz : TS} {R Ra : Rp} {Nx Nx' : Nxt} {Rt : Rts} {b : Bs} {s : St} {H G G' H' : Hp} {g : TG}
theorem AtG.sub (a : AtG Y b t O W s H G) : Sub G H := a.st.sub
theorem AtG.step (a : AtG Y b t O W s H G) (st : Step [] G H G' H') : AtG Y b t O W s H' G' where
  ty := a.ty.mono st.gg
  ro := a.ro.step st.gg st.ex
  st := a.st.trans st.any
  w := fun p hp => by
    obtain ⟨h1, ⟨o, h2, h3⟩, h4⟩ := a.w p hp
    exact ⟨(st.old p (.mut h2 h3)).trans h1, ⟨o, st.ex p o h2, h3⟩, h4⟩
  y := fun p hp => by
    obtain ⟨h1, ⟨o, h2, h3⟩, h4⟩ := a.y p hp
    exact ⟨(st.old p (.mut h2 h3)).trans h1, ⟨o, st.ex p o h2, h3⟩, h4⟩
  nd := a.nd
theorem AtG.setTy {v : V} {i : Nat} (a : AtG Y b t O W s H G) (h : R.p v G) : AtG Y b (t.set i (some R)) O W (s.set i (some v)) H G := ⟨a.ty.set i h, a.ro, a.st, a.w, a.y, a.nd⟩
theorem At.forget {i : Nat} (a : At Y b t O W s H) : At Y b (t.set i none) O W s H := by
  obtain ⟨G, a⟩ := a
  exact ⟨G, a.ty.forget i, a.ro, a.st, a.w, a.y, a.nd⟩

/-! ### plumbing -/
theorem HT.pre (p : ∀ b s H, At Y b t O W s H → At Y b t' O' W' s H) (h : HT Y t' O' W' ts Nx Rt) : HT Y t O W ts Nx Rt := fun b s H a D n r => h b s H (p b s H a) D n r
theorem HT.eq (h : HT Y t' O' W' ts Nx Rt) (e1 : t = t') (e2 : O = O') (e3 : W = W') : HT Y t O W ts Nx Rt := by subst e1 e2 e3; exact h
theorem HT.nxt (h : HT Y t O W ts Nx Rt) (k : ∀ t O W, Nx t O W → Nx' t O W) : HT Y t O W ts Nx' Rt := fun b s H a D n r => h b s H a D (fun t' O' W' s' H' hn => n t' O' W' s' H' (k t' O' W' hn)) r
theorem ht_next (h : Nx t O W) : HT Y t O W tNext Nx Rt := fun b s H a D n r => n t O W s H h a
theorem ht_never : HT Y t O W tNever Nx Rt → HT Y t O W tNever Nx Rt := id
theorem ht_seq (h : HT Y t O W ts Nx Rt) (k : ∀ t' O' W', Nx t' O' W' → HT Y t' O' W' tu Nx' Rt) : HT Y t O W (tSeq ts tu) Nx' Rt := fun b s H a D n r =>
  h b s H a { D with nx := tu D } (fun t' O' W' s' H' hn a' => k t' O' W' hn b s' H' a' D n r) r

/-! ### statements -/
theorem ht_set {i : Nat} (h : EvT t O te R) (k : Nx (t.set i (some R)) O W) : HT Y t O W (tAsg te (gName i)) Nx Rt := fun b s H ⟨G, a⟩ D n r =>
  h s G H a.ty a.ro a.sub _ fun v G' H' st hv => n _ _ _ _ _ k ⟨G', (a.step st).setTy hv⟩
theorem hs_set {i : Nat} (h : EvT t O te R) (k : HT Y (t.set i (some R)) O W tu Nx Rt) : HT Y t O W (tSeq (tAsg te (gName i)) tu) Nx Rt := ht_seq (Nx := fun t' O' W' => t' = t.set i (some R) ∧ O' = O ∧ W' = W) (ht_set h ⟨rfl, rfl, rfl⟩) fun _ _ _ ⟨e1, e2, e3⟩ => k.eq e1 e2 e3
/-- x = e, e stands for one of many -/
theorem hs_setE {β : Type} {P : β → Prop} {Rb : β → Rp} {i : Nat} (h : EvT t O te (rEx P Rb)) (k : ∀ z, P z → HT Y (t.set i (some (Rb z))) O W tu Nx Rt) : HT Y t O W (tSeq (tAsg te (gName i)) tu) Nx Rt := fun b s H ⟨G, a⟩ D n r =>
  h s G H a.ty a.ro a.sub _ fun v G' H' st ⟨z, hz, hv⟩ => k z hz b _ _ ⟨G', (a.step st).setTy hv⟩ D n r
theorem ht_ret (h : EvT t O te R) (k : Rt R O W) : HT Y t O W (tRet te) Nx Rt := fun b s H ⟨G, a⟩ D n r =>
  h s G H a.ty a.ro a.sub _ fun v G' H' st hv => r R O W v G' H' k (a.st.trans st.any) hv (a.ro.step st.gg st.ex) fun p hp => by
    obtain ⟨h1, ⟨o, h2, h3⟩, h4⟩ := a.w p hp
    exact ⟨(st.old p (.mut h2 h3)).trans h1, h4⟩
theorem ht_if {c : Bool} (h : EvB t O tt c) (h1 : c = true → HT Y t O W ts Nx Rt) (h2 : c = false → HT Y t O W tu Nx Rt) : HT Y t O W (tIfS tt ts tu) Nx Rt := fun b s H ⟨G, a⟩ D n r =>
  h s G H a.ty a.ro a.sub _ fun G' H' st => by
    cases c with
    | true => exact iteT (h1 rfl b s H' ⟨G', a.step st⟩ D n r)
    | false => exact iteF (h2 rfl b s H' ⟨G', a.step st⟩ D n r)
/-- an if without else, something behind -/
theorem hs_if {c : Bool} (h : EvB t O tt c) (h1 : c = true → HT Y t O W (tSeq ts tu) Nx Rt) (h2 : c = false → HT Y t O W tu Nx Rt) : HT Y t O W (tSeq (tIfS tt ts tNext) tu) Nx Rt := fun b s H ⟨G, a⟩ D n r =>
  h s G H a.ty a.ro a.sub _ fun G' H' st => by
    cases c with
    | true => exact iteT (h1 rfl b s H' ⟨G', a.step st⟩ D n r)
    | false => exact iteF (h2 rfl b s H' ⟨G', a.step st⟩ D n r)
/-- .. that returns or never is -/
theorem hs_ifRet {c : Bool} (h : EvB t O tt c) (h1 : c = true → HT Y t O W ts (fun _ _ _ => False) Rt) (h2 : c = false → HT Y t O W tu Nx Rt) : HT Y t O W (tSeq (tIfS tt ts tNext) tu) Nx Rt := fun b s H ⟨G, a⟩ D n r =>
  h s G H a.ty a.ro a.sub _ fun G' H' st => by
    cases c with
    | true => exact iteT (h1 rfl b s H' ⟨G', a.step st⟩ _ (fun _ _ _ _ _ z _ => z.elim) r)
    | false => exact iteF (h2 rfl b s H' ⟨G', a.step st⟩ D n r)
/-- .. that is never taken -/
theorem hs_ifNo (h : EvB t O tt false) (h2 : HT Y t O W tu Nx Rt) : HT Y t O W (tSeq (tIfS tt ts tNext) tu) Nx Rt := hs_ifRet h (fun e => by cases e) fun _ => h2
theorem ht_ifNo (h : EvB t O tt false) (h2 : Nx t O W) : HT Y t O W (tIfS tt ts tNext) Nx Rt := ht_if h (fun e => by cases e) fun _ => ht_next h2
theorem ht_drop (h : EvT t O te R) (k : Nx t O W) : HT Y t O W (tDrop te) Nx Rt := fun b s H ⟨G, a⟩ D n r =>
  h s G H a.ty a.ro a.sub _ fun v G' H' st hv => n _ _ _ _ _ k ⟨G', a.step st⟩
theorem hs_drop (h : EvT t O te R) (k : HT Y t O W tu Nx Rt) : HT Y t O W (tSeq (tDrop te) tu) Nx Rt := ht_seq (Nx := fun t' O' W' => t' = t ∧ O' = O ∧ W' = W) (ht_drop h ⟨rfl, rfl, rfl⟩) fun _ _ _ ⟨e1, e2, e3⟩ => k.eq e1 e2 e3

theorem ok_mut {c : OC} {o : HO} (h : c.ok o G) (hc : c.may = true) : Mut (some o) := by
  cases c <;> cases o <;> first | exact h.elim | trivial | cases hc
/-! ### own new objects -/
/-- a reading that gives a new object, which may still change -/
def EvN (t : Tys) (O : Os) (te : TE) (c : OC) : Prop := ∀ s G H, Ty s t G → RO O G H → Sub G H → ∀ Q : VK, (∀ p o G' H', Step [] G H G' H' → H p = none → G' p = none → H' p = some o → c.ok o G' → Q (.ref p) H') → te s H Q
theorem AtG.own {p : Addr} {o : HO} {c : OC} (a : AtG Y b t O W s H G) (st : Step [] G H G' H') (hp : H p = none) (hg : G' p = none) (ho : H' p = some o) (hc : c.ok o G') (hm : c.may = true) : AtG Y b t ((p, c) :: O) (p :: W) s H' G' := by
  have a' := a.step st
  have hb : b.H p = none := by
    cases q : b.H p with
    | none => rfl
    | some u => exact absurd hp (a.st.all p (some_ne q))
  have npO : p ∉ O.map (·.1) := fun hm => by
    obtain ⟨e, he, e2⟩ := List.mem_map.mp hm
    obtain ⟨u, h1, _⟩ := a.ro e he
    subst e2
    rw [hp] at h1; cases h1
  refine ⟨a'.ty, fun e he => ?_, a'.st, fun q hq => ?_, a'.y, List.nodup_cons.mpr ⟨npO, a.nd⟩⟩
  · rcases List.mem_cons.mp he with rfl | he
    · exact ⟨o, ho, hc⟩
    · exact a'.ro e he
  · rcases List.mem_cons.mp hq with rfl | hq
    · exact ⟨hg, ⟨o, ho, ok_mut hc hm⟩, hb⟩
    · exact a'.w q hq
theorem hs_setN {c : OC} {i : Nat} (h : EvN t O te c) (hm : c.may = true := by rfl) (k : ∀ p, HT Y (t.set i (some (rRef p))) ((p, c) :: O) (p :: W) tu Nx Rt) : HT Y t O W (tSeq (tAsg te (gName i)) tu) Nx Rt := fun b s H ⟨G, a⟩ D n r =>
  h s G H a.ty a.ro a.sub _ fun p o G' H' st hp hg ho hc => k p b _ _ ⟨G', (a.own st hp hg ho hc hm).setTy rfl⟩ D n r
theorem en_lst {tr : TA} {Rs : List Rp} (ha : EvA t O tr Rs) (hl : Rs.length ≤ sizeLine := by first | decide | (simp only [List.length_cons, List.length_nil]; decide)) : EvN t O (tLst tr) (.lst Rs) := fun s G H T o sb Q q =>
  ha s G H T o sb _ fun xs G1 H1 s1 hx => ⟨by rw [hx.length]; exact hl, fun p hp => q p _ G1 _ (s1.trans (Step.newH s1.sub hp)) (by
    cases z : H p with
    | none => rfl
    | some u => rw [s1.ex p u z] at hp; cases hp) (s1.sub.none hp) upd_same hx⟩
theorem en_dK : EvN t O tDNewK (.dK []) := fun s G H T o sb Q q => fun p hp => q p _ G _ (Step.newH sb hp) hp (sb.none hp) upd_same trivial
theorem en_dT : EvN t O tDNewT (.dT []) := fun s G H T o sb Q q => fun p hp => q p _ G _ (Step.newH sb hp) hp (sb.none hp) upd_same trivial
/-- an object that may change is given a new content -/
theorem AtG.put {p : Addr} {u : HO} {c : OC} {k : Nat} {o : HO} {d : OC} (a : AtG Y b t O W s H G) (hk : O[k]? = some (p, d)) (hw : p ∈ W ∨ p ∈ Y) (hh : H p = some o) (hc : c.ok u G) (hm : c.may = true) : AtG Y b t (O.set k (p, c)) W s (upd H p u) G := by
  have gp : G p = none := by
    rcases hw with h | h
    · exact (a.w p h).1
    · exact (a.y p h).1
  have hlt : k < O.length := (List.getElem?_eq_some_iff.mp hk).1
  have hOk : O[k] = (p, d) := (List.getElem?_eq_some_iff.mp hk).2
  have stay : ∀ q, H q ≠ none → upd H p u q ≠ none := fun q hq => by
    by_cases e : q = p
    · rw [e, upd_same]; simp
    · rw [upd_ne e]; exact hq
  have stayN : ∀ q, NT H q → NT (upd H p u) q := fun q hq => by
    by_cases e : q = p
    · rw [e]; exact .mut upd_same (ok_mut hc hm)
    · exact ⟨by rw [upd_ne e]; exact hq.1, fun vs => by rw [upd_ne e]; exact hq.2 vs⟩
  have stayM : ∀ q, (∃ o, H q = some o ∧ Mut (some o)) → ∃ o, upd H p u q = some o ∧ Mut (some o) := fun q ⟨o, h1, h2⟩ => by
    by_cases e : q = p
    · rw [e, upd_same]; exact ⟨u, rfl, ok_mut hc hm⟩
    · rw [upd_ne e]; exact ⟨o, h1, h2⟩
  have nd : (O.set k (p, c)).map (·.1) = O.map (·.1) := by
    rw [List.map_set]
    apply List.ext_getElem (by simp)
    intro j h1 h2
    by_cases e : k = j
    · subst e; simp [hOk]
    · rw [List.getElem_set_ne e]
  refine ⟨a.ty, fun e he => ?_, ⟨a.st.gg, fun x v hx => ?_, fun x v hx nx => ?_, fun x hx => stay x (a.st.all x hx), a.st.old, fun x hx => stayN x (a.st.nt x hx), fun x vs hx => ?_⟩, fun q hq => ⟨(a.w q hq).1, stayM q (a.w q hq).2.1, (a.w q hq).2.2⟩, fun q hq => ⟨(a.y q hq).1, stayM q (a.y q hq).2.1, (a.y q hq).2.2⟩, by rw [nd]; exact a.nd⟩
  · obtain ⟨j, hj, ej⟩ := List.mem_iff_getElem.mp he
    by_cases e1 : k = j
    · subst e1
      rw [List.getElem_set_self] at ej
      subst ej
      exact ⟨u, upd_same, hc⟩
    · rw [List.getElem_set_ne e1] at ej
      have hj' : j < O.length := by simpa using hj
      have he' : e ∈ O := by rw [← ej]; exact List.getElem_mem hj'
      have ne : e.1 ≠ p := fun q => e1 (by
        have h1 : (O.map (·.1))[k]'(by simpa using hlt) = (O.map (·.1))[j]'(by simpa using hj') := by simp [hOk, ej, q]
        exact (List.getElem_inj a.nd).mp h1)
      obtain ⟨v, h1, h2⟩ := a.ro e he'
      exact ⟨v, by rw [upd_ne ne]; exact h1, h2⟩
  · have hne : x ≠ p := fun e => by rw [e, gp] at hx; cases hx
    rw [upd_ne hne]; exact a.st.sub x v hx
  · have hne : x ≠ p := fun e => by
      rcases hw with h | h
      · rw [e, (a.w p h).2.2] at hx; cases hx
      · exact nx (by rw [e]; exact (a.y p h).2.2.1)
    rw [upd_ne hne]; exact a.st.hh x v hx nx
  · have h1 := a.st.tt x vs hx
    have hne : x ≠ p := fun e => by
      have m : Mut (some o) := by
        rcases hw with h | h
        · obtain ⟨o', h2, h3⟩ := (a.w p h).2.1
          rw [hh] at h2; cases h2; exact h3
        · obtain ⟨o', h2, h3⟩ := (a.y p h).2.1
          rw [hh] at h2; cases h2; exact h3
      rw [e, hh] at h1; cases h1; exact m
    rw [upd_ne hne]; exact h1
/-- an own object that changes no more is known from here on -/
theorem AtG.freeze {p : Addr} {c : OC} {i k : Nat} (Rc : Rp) (a : AtG Y b t O W s H G) (hi : t[i]? = some (some (rRef p))) (hk : O[k]? = some (p, c)) (hw : p ∈ W) (hW : ∀ q ∈ W', q ∈ W ∧ q ≠ p) (hY : p ∉ Y) (hR : ∀ o F, F p = some o → c.ok o F → Rc.p (.ref p) F) :
    At Y b (t.set i (some Rc)) (O.eraseIdx k) W' s H := by
  have hm : (p, c) ∈ O := List.mem_of_getElem? hk
  obtain ⟨u, h0, h1⟩ := a.ro _ hm
  have gp : G p = none := (a.w p hw).1
  have e : Ex G (upd G p u) := Ex.new gp
  have hlt : k < O.length := (List.getElem?_eq_some_iff.mp hk).1
  have hRc : Rc.p (.ref p) (upd G p u) := hR u _ upd_same (OC.ok_mono e h1)
  obtain ⟨v, hv1, hv2⟩ := a.ty.get hi
  have hv2 : v = .ref p := hv2
  subst hv2
  refine ⟨upd G p u, (a.ty.mono e).tell hv1 hRc, fun x hx => ?_, ⟨a.st.gg.trans e, fun x v hx => ?_, a.st.hh, a.st.all, fun x hx => ?_, a.st.nt, a.st.tt⟩, fun q hq => ?_, fun q hq => ?_, ?_⟩
  · have hx' : x ∈ O := List.mem_of_mem_eraseIdx hx
    obtain ⟨z, z1, z2⟩ := a.ro x hx'
    exact ⟨z, z1, OC.ok_mono e z2⟩
  · by_cases ex : x = p
    · subst ex
      rw [upd_same] at hx; cases hx
      exact .inl h0
    · rw [upd_ne ex] at hx
      exact a.st.sub x v hx
  · have hne : x ≠ p := fun ex => hx.1 (by rw [ex]; exact (a.w p hw).2.2)
    rw [upd_ne hne]; exact a.st.old x hx
  · obtain ⟨h2, h3⟩ := hW q hq
    rw [upd_ne h3]; exact a.w q h2
  · have hne : q ≠ p := fun ex => hY (by rw [← ex]; exact hq)
    rw [upd_ne hne]; exact a.y q hq
  · have sl : ((O.eraseIdx k).map (·.1)).Sublist (O.map (·.1)) := (List.eraseIdx_sublist O k).map _
    exact a.nd.sublist sl
theorem HT.freeze {p : Addr} {c : OC} {i k : Nat} (Rc : Rp) (hi : t[i]? = some (some (rRef p))) (hk : O[k]? = some (p, c)) (hw : p ∈ W) (hR : ∀ o F, F p = some o → c.ok o F → Rc.p (.ref p) F)
    (h : HT [] (t.set i (some Rc)) (O.eraseIdx k) [] ts Nx Rt) : HT [] t O W ts Nx Rt := fun b s H ⟨G, a⟩ D n r =>
  h b s H (a.freeze (W' := []) Rc hi hk hw (by simp) (by simp) hR) D n r
end
end Rz
set_option Elab.async false
set_option linter.all false
set_option maxRecDepth 100000
set_option maxHeartbeats 2000000
/-! Rz4: targets, what is walked, for, while, comprehensions, a def by its body. Own work. -/
namespace Rz
open PySem PySem.Spec L2


/-! ### targets -/
/-- only the slots us differ -/
def Off (us : List Nat) (s s' : St) : Prop := s'.length = s.length ∧ ∀ j, j ∉ us → s'[j]? = s[j]?
theorem Off.refl {us : List Nat} {s : St} : Off us s s := ⟨rfl, fun _ _ => rfl⟩
theorem Off.trans {us vs : List Nat} {s s1 s2 : St} (a : Off us s s1) (b : Off vs s1 s2) : Off (us ++ vs) s s2 := ⟨b.1.trans a.1, fun j h => by
  rw [List.mem_append, not_or] at h
  rw [b.2 j h.2, a.2 j h.1]⟩
theorem Off.set {i : Nat} {s : St} {v : Option V} : Off [i] s (s.set i v) := ⟨by simp, fun j h => by
  have hne : i ≠ j := fun e => h (by rw [e]; simp)
  rw [List.getElem?_set_ne hne]⟩
theorem wipe_at (s : St) (vs : List Nat) (j : Nat) : (wipe s vs)[j]? = if j ∈ vs then s[j]?.map (fun _ => none) else s[j]? := by
  induction vs with
  | nil => simp [wipe]
  | cons v vs ih =>
    unfold wipe
    by_cases e : v = j
    · subst e
      rw [if_pos (by simp), List.getElem?_set]
      have hl : (wipe s vs).length = s.length := wipe_length s vs
      by_cases hv : v < s.length
      · rw [if_pos rfl, if_pos (by rw [hl]; exact hv), List.getElem?_eq_getElem hv]; rfl
      · rw [if_pos rfl, if_neg (by rw [hl]; exact hv), List.getElem?_eq_none (by omega)]; rfl
    · rw [List.getElem?_set_ne e, ih]
      by_cases hj : j ∈ vs
      · rw [if_pos hj, if_pos (by simp [hj])]
      · rw [if_neg hj, if_neg (by simp [hj]; exact fun q => e q.symm)]
theorem wipe_off {us vs : List Nat} {s s' : St} (h : ∀ u ∈ us, u ∈ vs) (o : Off us (wipe s vs) s') : wipe s' vs = wipe s vs := by
  apply List.ext_getElem?
  intro j
  rw [wipe_at, wipe_at]
  by_cases hj : j ∈ vs
  · rw [if_pos hj, if_pos hj]
    have h1 : s'.length = s.length := by rw [o.1, wipe_length]
    by_cases hl : j < s.length
    · rw [List.getElem?_eq_getElem (by omega : j < s'.length), List.getElem?_eq_getElem hl]; rfl
    · rw [List.getElem?_eq_none (by omega), List.getElem?_eq_none (by omega)]
  · rw [if_neg hj, if_neg hj, o.2 j (fun hu => hj (h j hu)), wipe_at, if_neg hj]
def TgT (g : TG) (R : Rp) (t t' : Tys) (us : List Nat) : Prop := ∀ v s G H, R.p v G → Ty s t G → Sub G H → ∀ Q : St → Hp → Prop, (∀ s', Ty s' t' G → Off us s s' → Q s' H) → g v s H Q
def TgsT (g : TGs) (Rs : List Rp) (t t' : Tys) (us : List Nat) : Prop := ∀ vs s G H, All2 vs Rs G → Ty s t G → Sub G H → ∀ Q : St → Hp → Prop, (∀ s', Ty s' t' G → Off us s s' → Q s' H) → g vs s H Q
section
variable {K : PySem.W.Frag} {t t1 t2 : Tys} {R : Rp} {Rs : List Rp} {us vs : List Nat}
theorem tg_name {i : Nat} : TgT (gName i) R t (t.set i (some R)) [i] := fun v s G H h T _ Q q => q _ (T.set i h) Off.set
theorem tgs_nil : TgsT gNil [] t t [] := fun xs s G H h T _ Q q => by
  match xs, h with
  | [], _ => exact ⟨rfl, q s T Off.refl⟩
theorem tgs_cons {g : TG} {u : TGs} (h1 : TgT g R t t1 us) (h2 : TgsT u Rs t1 t2 vs) : TgsT (gCons g u) (R :: Rs) t t2 (us ++ vs) := fun xs s G H h T sb Q q => by
  match xs, h with
  | x :: xs, h => exact ⟨x, xs, rfl, h1 x s G H h.1 T sb _ fun s1 T1 o1 => h2 xs s1 G H h.2 T1 sb _ fun s2 T2 o2 => q s2 T2 (o1.trans o2)⟩
theorem tg_tup {n : Nat} {u : TGs} (h : TgsT u Rs t t1 us) (hn : Rs.length = n := by rfl) : TgT (gTup K n u) (rTup Rs) t t1 us := fun v s G H hv T sb Q q => by
  obtain ⟨a, xs, rfl, ha, hx⟩ := hv
  exact ⟨a, xs, rfl, sb.tup ha, hx.length.trans hn, h xs s G H hx T sb Q q⟩
theorem tg_two {i j : Nat} {Ra Rb : Rp} : TgT (gTup K 2 (gCons (gName i) (gCons (gName j) gNil))) (rTup [Ra, Rb]) t ((t.set i (some Ra)).set j (some Rb)) [i, j] := tg_tup (tgs_cons tg_name (tgs_cons tg_name tgs_nil))
theorem tg_three {i j l : Nat} {Ra Rb Rc : Rp} : TgT (gTup K 3 (gCons (gName i) (gCons (gName j) (gCons (gName l) gNil)))) (rTup [Ra, Rb, Rc]) t (((t.set i (some Ra)).set j (some Rb)).set l (some Rc)) [i, j, l] := tg_tup (tgs_cons tg_name (tgs_cons tg_name (tgs_cons tg_name tgs_nil)))
end

/-! ### what is walked -/
structure SrcL (L : Os) (J : It) (Rs : List Rp) (G1 : Hp) : Prop where
  goes : ∀ i H G, i < Rs.length → Ex G1 G → Sub G H → RO L G H → J.go i H
  stops : ∀ H G, Ex G1 G → Sub G H → RO L G H → J.stop Rs.length H
  yields : ∀ i H G x H' R, Rs[i]? = some R → Ex G1 G → Sub G H → RO L G H → J.yld i H x H' → ∃ G', Step [] G H G' H' ∧ R.p x G'
/-- .. L: the objects that are to stand as they are while it is walked -/
def SrcW (L : Os) (t : Tys) (O : Os) (wi : TI) (Rs : List Rp) : Prop := ∀ s G H, Ty s t G → RO O G H → Sub G H → ∀ Rk : It → Hp → Prop, (∀ J G' H', Step [] G H G' H' → SrcL L J Rs G' → Rk J H') → wi s H Rk
structure Src (J : It) (Rs : List Rp) (G1 : Hp) : Prop where
  goes : ∀ i H G, i < Rs.length → Ex G1 G → Sub G H → J.go i H
  stops : ∀ H G, Ex G1 G → Sub G H → J.stop Rs.length H
  yields : ∀ i H G x H' R, Rs[i]? = some R → Ex G1 G → Sub G H → J.yld i H x H' → ∃ G', Step [] G H G' H' ∧ R.p x G'
def SrcT (t : Tys) (O : Os) (wi : TI) (Rs : List Rp) : Prop := ∀ s G H, Ty s t G → RO O G H → Sub G H → ∀ Rk : It → Hp → Prop, (∀ J G' H', Step [] G H G' H' → Src J Rs G' → Rk J H') → wi s H Rk
theorem SrcT.w {t : Tys} {O : Os} {wi : TI} {Rs : List Rp} (h : SrcT t O wi Rs) : SrcW [] t O wi Rs := fun s G H T o sb Rk q =>
  h s G H T o sb Rk fun J G' H' st c => q J G' H' st ⟨fun i H2 G2 l e s _ => c.goes i H2 G2 l e s, fun H2 G2 e s _ => c.stops H2 G2 e s, fun i H2 G2 x H3 R hR e s _ y => c.yields i H2 G2 x H3 R hR e s y⟩
section
variable {K : PySem.W.Frag} {t : Tys} {O : Os} {tl ta tb : TE} {Rs : List Rp}
theorem src_tup (h : EvT t O tl (rTup Rs)) : SrcT t O (iTup K tl) Rs := fun s G H T o sb Rk q => h s G H T o sb _ fun v G' H' st hv => by
  obtain ⟨a, vs, rfl, ha, hx⟩ := hv
  refine ⟨a, rfl, ⟨vs, st.sub.tup ha⟩, q _ G' H' st ⟨fun i H2 G2 hi e s2 => ?_, fun H2 G2 e s2 => ?_, fun i H2 G2 x H3 R hR e s2 y => ?_⟩⟩
  · have hi' : i < vs.length := by rw [hx.length]; exact hi
    exact ⟨vs, vs[i], s2.tup (e _ _ ha), by simp [hi']⟩
  · exact ⟨vs, s2.tup (e _ _ ha), by rw [hx.length]; exact Nat.le_refl _⟩
  · obtain ⟨e1, y1⟩ := y
    subst e1
    obtain ⟨v, h1, h2⟩ := hx.get hR
    have h3 := y1 vs (s2.tup (e _ _ ha))
    rw [h1] at h3; cases h3
    exact ⟨G2, Step.refl s2, R.mono _ _ _ e h2⟩
theorem src_lst (h : EvT t O tl (rLst Rs)) : SrcT t O (iList K tl) Rs := fun s G H T o sb Rk q => h s G H T o sb _ fun v G' H' st hv => by
  obtain ⟨a, vs, rfl, ha, hx⟩ := hv
  refine ⟨a, rfl, ⟨vs, st.sub.lst ha⟩, q _ G' H' st ⟨fun i H2 G2 hi e s2 => ?_, fun H2 G2 e s2 => ?_, fun i H2 G2 x H3 R hR e s2 y => ?_⟩⟩
  · have hi' : i < vs.length := by rw [hx.length]; exact hi
    exact ⟨vs, vs[i], s2.lst (e _ _ ha), by simp [hi']⟩
  · exact ⟨vs, s2.lst (e _ _ ha), by rw [hx.length]; exact Nat.le_refl _⟩
  · obtain ⟨e1, y1⟩ := y
    subst e1
    obtain ⟨v, h1, h2⟩ := hx.get hR
    have h3 := y1 vs (s2.lst (e _ _ ha))
    rw [h1] at h3; cases h3
    exact ⟨G2, Step.refl s2, R.mono _ _ _ e h2⟩
theorem src_of_range {lo : Int} {n : Nat} {G : Hp} : Src (Itr lo n) ((List.range n).map fun (i : Nat) => rInt (lo + (i : Int))) G := by
  refine ⟨fun i H2 G2 hi e s2 => ?_, fun H2 G2 e s2 => ?_, fun i H2 G2 x H3 R hR e s2 y => ?_⟩
  · show i < n
    simpa using hi
  · show n ≤ _
    simp
  · obtain ⟨e1, y1⟩ := y
    subst e1 y1
    rw [List.getElem?_map] at hR
    have hi : i < n := by
      rcases Nat.lt_or_ge i n with h | h
      · exact h
      · rw [List.getElem?_eq_none (by simpa using h)] at hR; cases hR
    rw [List.getElem?_range hi] at hR
    cases hR
    exact ⟨G2, Step.refl s2, rfl⟩
theorem src_range1 {tr : TA} {n : Int} (h : EvA t O tr [rInt n]) (h1 : -(2 ^ 62) ≤ n := by omega) (h2 : n < 2 ^ 62 := by omega) : SrcT t O (iRng1 tr) ((List.range n.toNat).map fun (i : Nat) => rInt (0 + (i : Int))) := fun s G H T o sb Rk q =>
  h s G H T o sb _ fun vs G' H' st hv => by
    match vs, hv with
    | [v], hv =>
      have e : v = .int n := hv.1
      subst e
      exact ⟨n, rfl, h1, h2, q _ G' H' st src_of_range⟩
theorem src_range2 {tr : TA} {m n : Int} (h : EvA t O tr [rInt m, rInt n]) (h1 : -(2 ^ 62) ≤ m := by omega) (h2 : m < 2 ^ 62 := by omega) (h3 : -(2 ^ 62) ≤ n := by omega) (h4 : n < 2 ^ 62 := by omega) :
    SrcT t O (iRng2 tr) ((List.range (n - m).toNat).map fun (i : Nat) => rInt (m + (i : Int))) := fun s G H T o sb Rk q =>
  h s G H T o sb _ fun vs G' H' st hv => by
    match vs, hv with
    | [v, w], hv =>
      have e1 : v = .int m := hv.1
      have e2 : w = .int n := hv.2.1
      subst e1 e2
      exact ⟨m, n, rfl, ⟨h1, h2, h3, h4⟩, q _ G' H' st src_of_range⟩
end

/-! ### for -/
theorem Step.rebase {X : List Addr} {G0 H0 G1 H1 G H : Hp} (a : Step X G0 H0 G1 H1) (b : Step X G1 H0 G H) : Step X G0 H0 G H := ⟨a.gg.trans b.gg, b.sub, b.hh, b.all, fun x n => by rw [b.old x n, a.old x n], b.nt, b.tt⟩
theorem Step.self {X : List Addr} {G0 H0 G1 H1 : Hp} (a : Step X G0 H0 G1 H1) : Step X G1 H0 G1 H1 := ⟨Ex.refl _, a.sub, a.hh, a.all, fun _ _ => rfl, a.nt, a.tt⟩
section
variable {K : PySem.W.Frag} {Y : List Addr} {t t' : Tys} {O O' : Os} {W W' : List Addr} {wi : TI} {g : TG} {tb tu : TS} {tc : TT} {Rs : List Rp} {Nx Nx' : Nxt} {Rt : Rts} {b : Bs} {s : St} {H G G' H' : Hp}
theorem AtG.rebase (a : AtG Y b t O W s H G) : AtG Y ⟨G, b.H, b.X⟩ t O W s H G := ⟨a.ty, a.ro, a.st.self, a.w, a.y, a.nd⟩
theorem AtG.back {G1 H1 : Hp} (a : Step b.X b.G b.H G1 H1) (c : AtG Y ⟨G1, b.H, b.X⟩ t O W s H G) : AtG Y b t O W s H G := ⟨c.ty, c.ro, a.rebase c.st, c.w, c.y, c.nd⟩
theorem ht_forL {L : Os} (hl : SrcW L t O wi Rs) (I : Nat → Nxt) (hL : ∀ i t1 O1 W1, I i t1 O1 W1 → ∀ e ∈ L, e ∈ O1) (h0 : I 0 t O W)
    (hs : ∀ i R t1 O1 W1, Rs[i]? = some R → I i t1 O1 W1 → ∃ t2 us, TgT g R t1 t2 us ∧ HT Y t2 O1 W1 tb (I (i + 1)) Rt)
    (hd : ∀ t1 O1 W1, I Rs.length t1 O1 W1 → Nx t1 O1 W1) : HT Y t O W (tFor wi g tb) Nx Rt := fun b s H ⟨G, a⟩ D nn r => by
  refine hl s G H a.ty a.ro a.sub _ fun J G1 H1 st src => ?_
  have a1 := a.step st
  let b1 : Bs := ⟨G1, b.H, b.X⟩
  let Pv : Nat → St → Hp → Prop := fun i s H => ∃ t1 O1 W1, I i t1 O1 W1 ∧ At Y b1 t1 O1 W1 s H
  refine ⟨fun i m s H => m = Rs.length - i ∧ i ≤ Rs.length ∧ Pv i s H, ⟨_, rfl, Nat.zero_le _, t, O, W, h0, G1, a1.rebase⟩, ?_⟩
  rintro i m s2 H2 ⟨rfl, hi, t1, O1, W1, hI, G2, a2⟩
  have rl : RO L G2 H2 := fun e he => a2.ro e (hL i t1 O1 W1 hI e he)
  by_cases hlt : i < Rs.length
  · refine .inr ⟨src.goes i H2 G2 hlt a2.st.gg a2.sub rl, Pv (i + 1), fun s' H' p' => ⟨Rs.length - (i + 1), by omega, rfl, hlt, p'⟩, fun x H3 y => ?_⟩
    obtain ⟨G3, s3, hx⟩ := src.yields i H2 G2 x H3 _ (List.getElem?_eq_getElem hlt) a2.st.gg a2.sub rl y
    obtain ⟨t2, us, tg, hb⟩ := hs i _ t1 O1 W1 (List.getElem?_eq_getElem hlt) hI
    have a3 := a2.step s3
    refine tg x s2 G3 H3 hx a3.ty a3.sub _ fun s4 T4 _ => ?_
    refine hb b1 s4 H3 ⟨G3, T4, a3.ro, a3.st, a3.w, a3.y, a3.nd⟩ _ (fun t5 O5 W5 s5 H5 n5 a5 => ⟨t5, O5, W5, n5, a5⟩) fun R O5 W5 v G5 H5 hR st5 hv ho hw => ?_
    exact r R O5 W5 v G5 H5 hR (a1.st.rebase st5) hv ho hw
  · have e : i = Rs.length := by omega
    subst e
    exact .inl ⟨src.stops H2 G2 a2.st.gg a2.sub rl, nn t1 O1 W1 s2 H2 (hd t1 O1 W1 hI) ⟨G2, a2.back a1.st⟩⟩
theorem hs_forL {L : Os} (hl : SrcW L t O wi Rs) (I : Nat → Nxt) (hL : ∀ i t1 O1 W1, I i t1 O1 W1 → ∀ e ∈ L, e ∈ O1) (h0 : I 0 t O W)
    (hs : ∀ i R t1 O1 W1, Rs[i]? = some R → I i t1 O1 W1 → ∃ t2 us, TgT g R t1 t2 us ∧ HT Y t2 O1 W1 tb (I (i + 1)) Rt)
    (hd : ∀ t1 O1 W1, I Rs.length t1 O1 W1 → HT Y t1 O1 W1 tu Nx Rt) : HT Y t O W (tSeq (tFor wi g tb) tu) Nx Rt :=
  ht_seq (Nx := I Rs.length) (ht_forL hl I hL h0 hs fun _ _ _ h => h) hd
theorem ht_for (hl : SrcT t O wi Rs) (I : Nat → Nxt) (h0 : I 0 t O W)
    (hs : ∀ i R t1 O1 W1, Rs[i]? = some R → I i t1 O1 W1 → ∃ t2 us, TgT g R t1 t2 us ∧ HT Y t2 O1 W1 tb (I (i + 1)) Rt)
    (hd : ∀ t1 O1 W1, I Rs.length t1 O1 W1 → Nx t1 O1 W1) : HT Y t O W (tFor wi g tb) Nx Rt := ht_forL hl.w I (by simp) h0 hs hd
theorem hs_for (hl : SrcT t O wi Rs) (I : Nat → Nxt) (h0 : I 0 t O W)
    (hs : ∀ i R t1 O1 W1, Rs[i]? = some R → I i t1 O1 W1 → ∃ t2 us, TgT g R t1 t2 us ∧ HT Y t2 O1 W1 tb (I (i + 1)) Rt)
    (hd : ∀ t1 O1 W1, I Rs.length t1 O1 W1 → HT Y t1 O1 W1 tu Nx Rt) : HT Y t O W (tSeq (tFor wi g tb) tu) Nx Rt := hs_forL hl.w I (by simp) h0 hs hd
theorem ht_while (I : Nat → Nxt) (h0 : ∃ m, I m t O W)
    (hs : ∀ m t1 O1 W1, I m t1 O1 W1 → ∃ c, EvB t1 O1 tc c ∧ (c = true → HT Y t1 O1 W1 tb (fun t2 O2 W2 => ∃ m', m' < m ∧ I m' t2 O2 W2) Rt) ∧ (c = false → Nx t1 O1 W1)) : HT Y t O W (tWhile tc tb) Nx Rt := fun b s H a D nn r => by
  refine ⟨fun m s H => ∃ t1 O1 W1, I m t1 O1 W1 ∧ At Y b t1 O1 W1 s H, ?_, ?_⟩
  · obtain ⟨m, h0⟩ := h0
    exact ⟨m, t, O, W, h0, a⟩
  rintro m s2 H2 ⟨t1, O1, W1, hI, G2, a2⟩
  obtain ⟨c, h1, h2, h3⟩ := hs m t1 O1 W1 hI
  refine h1 s2 G2 H2 a2.ty a2.ro a2.sub _ fun G3 H3 st => ?_
  have a3 := a2.step st
  cases c with
  | true =>
    refine iteT ⟨fun s H => ∃ m', m' < m ∧ ∃ t1 O1 W1, I m' t1 O1 W1 ∧ At Y b t1 O1 W1 s H, fun s' H' ⟨m', l, x⟩ => ⟨m', l, x⟩, ?_⟩
    exact h2 rfl b s2 H3 ⟨G3, a3⟩ _ (fun t5 O5 W5 s5 H5 ⟨m', l, n5⟩ a5 => ⟨m', l, t5, O5, W5, n5, a5⟩) r
  | false => exact iteF (nn t1 O1 W1 s2 H3 (h3 rfl) ⟨G3, a3⟩)
theorem hs_while (I : Nat → Nxt) (h0 : ∃ m, I m t O W)
    (hs : ∀ m t1 O1 W1, I m t1 O1 W1 → ∃ c, EvB t1 O1 tc c ∧ (c = true → HT Y t1 O1 W1 tb (fun t2 O2 W2 => ∃ m', m' < m ∧ I m' t2 O2 W2) Rt) ∧ (c = false → HT Y t1 O1 W1 tu Nx Rt)) : HT Y t O W (tSeq (tWhile tc tb) tu) Nx Rt :=
  ht_seq (Nx := fun t1 O1 W1 => HT Y t1 O1 W1 tu Nx Rt) (ht_while I h0 hs) fun _ _ _ h => h
/-- any further place in the loop's word -/
theorem AtG.any {t1 : Tys} {O1 : Os} {W1 : List Addr} (a : AtG Y b t O W s H G) (h1 : Ty s t1 G) (h2 : ∀ e ∈ O1, e ∈ O) (h3 : ∀ p ∈ W1, p ∈ W) (h4 : (O1.map (·.1)).Nodup) : AtG Y b t1 O1 W1 s H G := ⟨h1, fun e he => a.ro e (h2 e he), a.st, fun p hp => a.w p (h3 p hp), a.y, h4⟩
end

/-! ### comprehensions -/
def wt (t : Tys) (vs : List Nat) : Tys := vs.foldr (fun i t => t.set i none) t
theorem snoc_take {α : Type} {xs : List α} {i : Nat} {x : α} (h : xs[i]? = some x) : xs.take (i + 1) = xs.take i ++ [x] := by
  rw [List.take_add_one, h]; rfl
section
variable {K : PySem.W.Frag} {t : Tys} {O : Os} {wi : TI} {g : TG} {tt : TT} {te tk tv : TE} {vs : List Nat} {α : Type} {xs : List α} {f r : α → Rp} {c : α → Bool}
/-- [e for x in xs if c] gives a new list -/
theorem en_lcL {L : Os} (hl : SrcW L t O wi (xs.map f)) (hL : ∀ e ∈ L, e ∈ O) (hz : xs.length ≤ sizeLine)
    (hs : ∀ x, x ∈ xs → ∃ t2 us, TgT g (f x) (wt t vs) t2 us ∧ (∀ u ∈ us, u ∈ vs) ∧ EvB t2 O tt (c x) ∧ (c x = true → EvT t2 O te (r x))) :
    EvN t O (tLc wi g tt te vs) (.lst ((xs.filter c).map r)) := fun s G H T o sb Q q => by
  refine hl s G H T o sb _ fun J G1 H1 st src => ?_
  intro D hD
  have src : SrcL L J (xs.map f) G1 := src
  have rl : ∀ {G2 H2 : Hp}, Step [] G1 H1 G2 H2 → RO L G2 H2 := fun s e he => ((o.step st.gg st.ex).step s.gg s.ex) e (hL e he)
  have T1 := T.mono st.gg
  have o1 := o.step st.gg st.ex
  let Pv : Nat → Hp → Prop := fun i H2 => ∃ G2 acc, Step [] G1 H1 G2 H2 ∧ G2 D = none ∧ H2 D = some (.lst acc) ∧ All2 acc (((xs.take i).filter c).map r) G2
  refine ⟨fun i m H2 => m = xs.length - i ∧ i ≤ xs.length ∧ Pv i H2, ⟨_, rfl, Nat.zero_le _, G1, [], Step.newH st.sub hD, st.sub.none hD, upd_same, trivial⟩, ?_⟩
  rintro i m H2 ⟨rfl, hi, G2, acc, s2, hg2, hD2, ha2⟩
  by_cases hlt : i < xs.length
  · refine .inr ⟨src.goes i H2 G2 (by simpa using hlt) s2.gg s2.sub (rl s2), Pv (i + 1), fun H' p' => ⟨xs.length - (i + 1), by omega, rfl, hlt, p'⟩, fun x H3 y => ?_⟩
    have hx : xs[i]? = some xs[i] := List.getElem?_eq_getElem hlt
    obtain ⟨G3, s3, hx3⟩ := src.yields i H2 G2 x H3 (f xs[i]) (by rw [List.getElem?_map, hx]; rfl) s2.gg s2.sub (rl s2) y
    obtain ⟨t2, us, tg, hu, hc, he⟩ := hs xs[i] (List.getElem_mem hlt)
    have s13 := s2.trans s3
    have Tw : Ty (wipe s vs) (wt t vs) G3 := (T1.mono s13.gg).wipe vs
    have hD3 : H3 D = some (.lst acc) := s3.ex D _ hD2
    have hg3 : G3 D = none := (s3.old D (.mut hD2 trivial)).trans hg2
    refine tg x (wipe s vs) G3 H3 hx3 Tw s13.sub _ fun s4 T4 o4 => ⟨wipe_off hu o4, ?_⟩
    refine hc s4 G3 H3 T4 (o1.step s13.gg s13.ex) s13.sub _ fun G5 H5 s5 => ?_
    have s15 := s13.trans s5
    have hD5 : H5 D = some (.lst acc) := s5.ex D _ hD3
    have hg5 : G5 D = none := (s5.old D (.mut hD3 trivial)).trans hg3
    cases hcx : c xs[i] with
    | false =>
      refine iteF ⟨G5, acc, s15, hg5, hD5, ?_⟩
      rw [snoc_take hx, List.filter_append, List.filter_cons_of_neg (by rw [hcx]; simp)]
      simpa using ha2.mono (s3.gg.trans s5.gg)
    | true =>
      refine iteT (he hcx s4 G5 H5 (T4.mono s5.gg) (o1.step s15.gg s15.ex) s15.sub _ fun v G6 H6 s6 hv => ?_)
      have s16 := s15.trans s6
      have hD6 : H6 D = some (.lst acc) := s6.ex D _ hD5
      have hg6 : G6 D = none := (s6.old D (.mut hD5 trivial)).trans hg5
      have hacc : acc.length ≤ i := by
        rw [ha2.length, List.length_map]
        refine Nat.le_trans (List.length_filter_le _ _) ?_
        rw [List.length_take]; omega
      refine ⟨acc, hD6, by omega, G6, acc ++ [v], ⟨s16.gg, fun a u ha => ?_, fun a u ha _ => ?_, fun a ha => ?_, s16.old, fun a ha => ?_, fun a vs ha => ?_⟩, hg6, upd_same, ?_⟩
      · have hne : a ≠ D := fun e => by rw [e, hg6] at ha; cases ha
        rw [upd_ne hne]; exact s16.sub a u ha
      · have hne : a ≠ D := fun e => by rw [e, hD] at ha; cases ha
        rw [upd_ne hne]; exact s16.ex a u ha
      · by_cases e : a = D
        · rw [e, upd_same]; simp
        · rw [upd_ne e]; exact s16.all a ha
      · by_cases e : a = D
        · rw [e]; exact .mut upd_same trivial
        · have n6 := s16.nt a ha
          exact ⟨by rw [upd_ne e]; exact n6.1, fun vs => by rw [upd_ne e]; exact n6.2 vs⟩
      · have hne : a ≠ D := fun e => by rw [e, hD] at ha; cases ha
        rw [upd_ne hne]; exact s16.ex a _ ha
      · rw [snoc_take hx, List.filter_append, List.filter_cons_of_pos hcx, List.map_append]
        exact (ha2.mono ((s3.gg.trans s5.gg).trans s6.gg)).app ⟨hv, trivial⟩
  · have e : i = xs.length := by omega
    subst e
    have fr : H D = none := by
      cases z : H D with
      | none => rfl
      | some u => rw [st.ex D u z] at hD; cases hD
    refine .inl ⟨?_, q D (.lst acc) G2 H2 (st.trans s2) fr hg2 hD2 ?_⟩
    · have := src.stops H2 G2 s2.gg s2.sub (rl s2)
      rwa [List.length_map] at this
    · rw [List.take_length] at ha2; exact ha2
theorem en_lc (hl : SrcT t O wi (xs.map f)) (hz : xs.length ≤ sizeLine)
    (hs : ∀ x, x ∈ xs → ∃ t2 us, TgT g (f x) (wt t vs) t2 us ∧ (∀ u ∈ us, u ∈ vs) ∧ EvB t2 O tt (c x) ∧ (c x = true → EvT t2 O te (r x))) :
    EvN t O (tLc wi g tt te vs) (.lst ((xs.filter c).map r)) := en_lcL hl.w (by simp) hz hs
/-- a new object that is not changed any more -/
theorem ev_new {te : TE} {cc : OC} {R : Rp} (h : EvN t O te cc) (hR : ∀ p o F, F p = some o → cc.ok o F → R.p (.ref p) F) : EvT t O te R := fun s G H T o sb Q q =>
  h s G H T o sb _ fun p u G' H' st hp hg ho hc => by
    have e : Ex G' (upd G' p u) := Ex.new hg
    refine q (.ref p) (upd G' p u) H' (Step.of (st.gg.trans e) (fun a w ha => ?_) st.ex fun a ha => ?_) (hR p u _ upd_same (OC.ok_mono e hc))
    · by_cases ea : a = p
      · rw [ea, upd_same] at ha; cases ha; rw [ea]; exact .inl ho
      · rw [upd_ne ea] at ha; exact st.sub a w ha
    · have ne : a ≠ p := fun ea => ha.1 (by rw [ea]; exact hp)
      rw [upd_ne ne]; exact st.old a ha
theorem oc_lst {Rs : List Rp} : ∀ p o F, F p = some o → (OC.lst Rs).ok o F → (rLst Rs).p (.ref p) F := fun p o F h k => by
  cases o with
  | lst vs => exact ⟨p, vs, rfl, h, k⟩
  | _ => exact k.elim
theorem oc_dK {r : List (Key × Rp)} : ∀ p o F, F p = some o → (OC.dK r).ok o F → (rDK r).p (.ref p) F := fun p o F h k => by
  cases o with
  | dK vs => exact ⟨p, vs, rfl, h, k⟩
  | _ => exact k.elim
theorem oc_dT {r : List (List Key × Rp)} : ∀ p o F, F p = some o → (OC.dT r).ok o F → (rDT r).p (.ref p) F := fun p o F h k => by
  cases o with
  | dT vs => exact ⟨p, vs, rfl, h, k⟩
  | _ => exact k.elim
theorem ev_lc (hl : SrcT t O wi (xs.map f)) (hz : xs.length ≤ sizeLine)
    (hs : ∀ x, x ∈ xs → ∃ t2 us, TgT g (f x) (wt t vs) t2 us ∧ (∀ u ∈ us, u ∈ vs) ∧ EvB t2 O tt (c x) ∧ (c x = true → EvT t2 O te (r x))) :
    EvT t O (tLc wi g tt te vs) (rLst ((xs.filter c).map r)) := ev_new (en_lc hl hz hs) oc_lst
theorem eb_yes : EvB t O tYes true := fun s G H _ _ sb Q q => q G H (Step.refl sb)
/-- [e for x in xs] -/
theorem ev_lc0 (hl : SrcT t O wi (xs.map f)) (hz : xs.length ≤ sizeLine)
    (hs : ∀ x, x ∈ xs → ∃ t2 us, TgT g (f x) (wt t vs) t2 us ∧ (∀ u ∈ us, u ∈ vs) ∧ EvT t2 O te (r x)) :
    EvT t O (tLc wi g tYes te vs) (rLst (xs.map r)) := by
  have h := ev_lc (c := fun _ => true) (tt := tYes) (te := te) (r := r) hl hz fun x hx => by
    obtain ⟨t2, us, h1, h2, h3⟩ := hs x hx
    exact ⟨t2, us, h1, h2, eb_yes, fun _ => h3⟩
  have e : xs.filter (fun _ => true) = xs := List.filter_eq_self.mpr fun _ _ => rfl
  rw [e] at h
  exact h
end

/-! ### a def by its body -/
/-- what a def leaves of its slots at entry -/
def startT (N : List Str) (Rs : List Rp) : Tys := Rs.map some ++ List.replicate (N.length - Rs.length) none
theorem ty_none : ∀ (n : Nat) (G : Hp), Ty (List.replicate n none) (List.replicate n none) G
  | 0, _ => trivial
  | n + 1, G => ⟨trivial, ty_none n G⟩
theorem ty_start {N : List Str} : ∀ {vs : List V} {Rs : List Rp} {G : Hp} (n : Nat), All2 vs Rs G → Ty (vs.map some ++ List.replicate n none) (Rs.map some ++ List.replicate n none) G
  | [], [], _, n, _ => ty_none n _
  | v :: _, _ :: _, _, n, h => ⟨⟨v, rfl, h.1⟩, ty_start (N := N) n h.2⟩
  | [], _ :: _, _, _, h => h.elim
  | _ :: _, [], _, _, h => h.elim
section
variable {P : Program} {w : World} {K : PySem.W.Frag} {mg : Str → Option Value} {base : Heap} {x qual : Str} {params : Arguments} {body : List Stmt} {scope : Scope} {dvs : List V} {kws : List (Str × V)} {f : Addr} {fd : FuncData}
theorem fn_prm {α : Type} {Rs : α → List Rp} {O : α → Os} {pre : α → Prop} {R : α → Rp} {N ps : List Str} {k : Nat} (F : FunD K x qual params body scope dvs kws f fd) (S : FnScope N ps scope) (hlen : ∀ a, (Rs a).length = ps.length) (hO : ∀ a, (O a).map (·.1) |>.Nodup)
    (hbody : ∀ (cdv : Value) (A : Around) (outer : List Env) (s : Shared) (H : Hp) (E : XK), Room k (A.deeper (PyProof.Rows.envOfC qual scope s.heap.objs.size f cdv)) →
      ∃ t, PSs (cxOf CX0 P w K mg base N qual scope f cdv A outer s H E).nox body t ∧ ∀ a, pre a → HT [] (startT N (Rs a)) (O a) [] t (fun _ _ _ => R a = rNon) (fun R' _ _ => R' = R a)) :
    FnOk P w K mg base CX0 (k + 1) f fd ps (Prm Rs O pre R) := by
  refine F.ok S (fun vs H Q E ⟨a, G, hp, hv, _⟩ => by rw [hv.length, hlen a]) fun cdv A outer s H vs Q E hr ⟨a, G, hp, hv, ho, sb, q⟩ => ?_
  obtain ⟨t, h1, h2⟩ := hbody cdv A outer s H E hr
  refine ⟨t, h1.nox, h2 a hp ⟨G, H, []⟩ _ H ⟨G, ?_, ho, Step.refl sb, by simp, by simp, hO a⟩ _ (fun t' O' W' s' H' e ⟨G', a'⟩ => ?_) fun R' O' W' v G' H' e st hv' _ _ => ?_⟩
  · unfold L2.start startT
    rw [hv.length]
    exact ty_start (N := N) _ hv
  · exact q .non G' H' a'.st (by rw [e]; rfl)
  · subst e
    exact q v G' H' st hv'
end
end Rz
set_option Elab.async false
set_option linter.all false
set_option maxRecDepth 100000
set_option maxHeartbeats 2000000
/-! Rz5: defs called by name, keyword calls, the names of the built-ins. Own work. -/
namespace Rz
open PySem PySem.Spec L2

/-! ### built-ins by name -/
theorem boot_isi : bootBuiltins "isinstance" = some (.builtin "isinstance") := by decide +kernel
theorem boot_lst : bootBuiltins "list" = some (.type "list") := by decide +kernel
theorem boot_tup : bootBuiltins "tuple" = some (.type "tuple") := by decide +kernel
theorem boot_int : bootBuiltins "int" = some (.type "int") := by decide +kernel
theorem boot_bool : bootBuiltins "bool" = some (.type "bool") := by decide +kernel
theorem boot_str : bootBuiltins "str" = some (.type "str") := by decide +kernel
theorem boot_dict : bootBuiltins "dict" = some (.type "dict") := by decide +kernel
theorem boot_set : bootBuiltins "set" = some (.type "set") := by decide +kernel
theorem boot_all : bootBuiltins "all" = some (.builtin "all") := by decide +kernel
theorem boot_any : bootBuiltins "any" = some (.builtin "any") := by decide +kernel
theorem boot_sum : bootBuiltins "sum" = some (.builtin "sum") := by decide +kernel
theorem boot_min : bootBuiltins "min" = some (.builtin "min") := by decide +kernel
theorem boot_max : bootBuiltins "max" = some (.builtin "max") := by decide +kernel
theorem boot_abs : bootBuiltins "abs" = some (.builtin "abs") := by decide +kernel
theorem boot_sorted : bootBuiltins "sorted" = some (.builtin "sorted") := by decide +kernel

/-- a built-in class as a value -/
theorem pe_ty {X : Cx} {x : Str} {n : String} {pos : Pos} (hg : Gl X x) (hm : X.mg x = none) (hv : bootBuiltins x = some (.type n)) (hn : x ≠ "__name__" := by decide) (hd : (x == ("__debug__" : Str)) = false := by decide) : PE X (.Name x pos) (tC (.ty n)) :=
  pe_bltn hg hm hv rfl hn hd

/-! ### a def that is called by its name -/
structure Kal (P : Program) (w : World) (K : PySem.W.Frag) (mg : Str → Option Value) (base : Heap) (k : Nat) (x : Str) (ps : List Str) (sp : Sp) : Prop where
  ex : ∃ (f : Addr) (fd : FuncData), FnOk P w K mg base CX0 k f fd ps sp ∧ mg x = some (.ref f) ∧ PySem.W.keepIn K (.ref f) = true ∧ Binds K fd ps []
/-- .. called with keywords ks behind n values -/
structure KalK (P : Program) (w : World) (K : PySem.W.Frag) (mg : Str → Option Value) (base : Heap) (k : Nat) (x : Str) (n : Nat) (ks : List Str) (gV : List V → List V → List V) (sp : Sp) : Prop where
  ex : ∃ (f : Addr) (fd : FuncData) (ps : List Str) (g : List Value → List Value → List Value), FnOk P w K mg base CX0 k f fd ps sp ∧ mg x = some (.ref f) ∧ PySem.W.keepIn K (.ref f) = true ∧ KBn K fd ps n ks g gV
section
variable {P : Program} {w : World} {K : PySem.W.Frag} {mg : Str → Option Value} {base : Heap} {x qual : Str} {params : Arguments} {body : List Stmt} {scope : Scope} {f : Addr} {fd : FuncData} {ps : List Str} {sp : Sp} {k : Nat}
theorem kal_of (F : FunD K x qual params body scope [] [] f fd) (hm : mg x = some (.ref f)) (ok : FnOk P w K mg base CX0 k f fd ps sp)
    (h : ∀ (kV doc pm : Value) (an : Option Addr) (cdv ct : Value) (us : List Value), us.length = ps.length → bindArgs (PySem.W.fnOf x qual params body scope .none kV doc pm an cdv ct) ⟨us, []⟩ = pure (ps.zip us)) : Kal P w K mg base k x ps sp :=
  ⟨f, fd, ok, hm, F.kp, F.bindsN h⟩
theorem kalk_of {n : Nat} {ks : List Str} (g : {α : Type} → List α → List α → List α) (F : FunD K x qual params body scope [] [] f fd) (hm : mg x = some (.ref f)) (ok : FnOk P w K mg base CX0 k f fd ps sp)
    (hr : ∀ {vs zs : List V} {us ws : List Value}, Vals vs us → Vals zs ws → Vals (g vs zs) (g us ws))
    (h : ∀ (kV doc pm : Value) (an : Option Addr) (cdv ct : Value) (us ws : List Value), us.length = n → ws.length = ks.length → bindArgs (PySem.W.fnOf x qual params body scope .none kV doc pm an cdv ct) ⟨us, ks.zip ws⟩ = pure (ps.zip (g us ws))) : KalK P w K mg base k x n ks (fun a b => g a b) sp := by
  obtain ⟨oc, od, dV, kV, doc, pm, an, cdv, ct, osl, rfl, lk, hcd, hD, hK⟩ := id F.ex
  rcases hD with ⟨_, rfl⟩ | ⟨e, _⟩
  · exact ⟨f, _, ps, fun a b => g a b, ok, hm, F.kp, ⟨fun s us ws _ l1 l2 => .of_eq (h kV doc pm an cdv ct us ws l1 l2), fun r1 r2 => hr r1 r2⟩⟩
  · exact absurd rfl e
end
section
variable {X : Cx} {k j n : Nat} {x : Str} {ps ks : List Str} {sp : Sp} {gV : List V → List V → List V} {p pos : Pos} {e : Expr} {es : List Expr} {kws : List Keyword} {t tk : TA}
theorem pe_k (c : Kal X.prog X.w X.K X.mg X.base k x ps sp) (hr : Room j X.A) (hk : k ≤ j) (hg : Gl X x) (ha : PA X (e :: es) t)
    (hdb : (x == ("__debug__" : Str)) = false := by decide) (he : starEach (e :: es) X.env = (false, eval e X.env) :: starEach es X.env := by rfl) (hpl : (backTo pos (starEach es X.env)).any (·.1) = false := by rfl) :
    PE X (.Call (.Name x p) (e :: es) [] pos) (tCall sp [] E0 t) := by
  obtain ⟨f, fd, F, hm, kp, b⟩ := c.ex
  exact pe_call F (hr.mono hk) hg hm kp b .nil pass0 ha hdb he hpl
theorem pe_kk (c : KalK X.prog X.w X.K X.mg X.base k x n ks gV sp) (hr : Room j X.A) (hk : k ≤ j) (hg : Gl X x) (ha : PA X (e :: es) t) (hkw : PK X kws tk)
    (hall : (backToKw pos (keywordEach kws X.env)).all (·.1.isSome) = true := by rfl) (hks : (backToKw pos (keywordEach kws X.env)).filterMap (·.1) = ks := by rfl)
    (hdb : (x == ("__debug__" : Str)) = false := by decide) (he : starEach (e :: es) X.env = (false, eval e X.env) :: starEach es X.env := by rfl)
    (hpl : ((backTo pos (starEach (e :: es) X.env)).any (·.1) || (backToKw pos (keywordEach kws X.env)).any (·.1.isNone)) = false := by rfl) :
    PE X (.Call (.Name x p) (e :: es) kws pos) (tCallN n ks.length sp gV E0 t tk) := by
  obtain ⟨f, fd, ps, g, F, hm, kp, b⟩ := c.ex
  exact pe_callN F (hr.mono hk) hg hm kp b pass0 ha hkw hall hks hdb he hpl
/-- keywords alone -/
theorem pe_kk0 (c : KalK X.prog X.w X.K X.mg X.base k x 0 ks gV sp) (hr : Room j X.A) (hk : k ≤ j) (hg : Gl X x) (hkw : PK X kws tk)
    (hall : (backToKw pos (keywordEach kws X.env)).all (·.1.isSome) = true := by rfl) (hks : (backToKw pos (keywordEach kws X.env)).filterMap (·.1) = ks := by rfl)
    (hdb : (x == ("__debug__" : Str)) = false := by decide)
    (hpl : ((backTo pos (starEach [] X.env)).any (·.1) || (backToKw pos (keywordEach kws X.env)).any (·.1.isNone)) = false := by rfl) :
    PE X (.Call (.Name x p) [] kws pos) (tCallN 0 ks.length sp gV E0 tNil tk) := by
  obtain ⟨f, fd, ps, g, F, hm, kp, b⟩ := c.ex
  refine ⟨fun pins s σ H Q I h => wpAny_Call_Name_kw (ld_glob I hg hm ?_ hdb)⟩
  refine PySem.W.callWith_KW0 (h₀ := X.base) I.ok.mod.kin kp hall (thn (hkw.run pos pins s σ H _ I h) fun ws s2 ⟨zs, H2, I2, rz, _, l2, q2⟩ => ⟨I2.kIn, ?_⟩) hpl
  rw [hks]
  exact run_fnN (us := []) (vs := []) F (hr.mono hk) b pass0 I2 .nil rz rfl l2 q2
end
end Rz
set_option Elab.async false
set_option linter.all false
set_option maxRecDepth 100000
set_option maxHeartbeats 2000000
/-! Rz6: further readings: chains, fields, dicts, slices, walks. Own work. -/
namespace Rz
open PySem PySem.Spec L2
section
variable {K : PySem.W.Frag} {t : Tys} {O : Os} {ta tb tc te td ty tx : TE} {tt tu : TT} {Ra Rb Rc R R' Rx : Rp} {r r' : R2}

theorem ev_chain {b1 b2 : Bool} (ha : EvT t O ta Ra) (hb : EvT t O tb Rb) (h1 : VO O r Ra Rb (rBl b1)) (hc : EvT t O tc Rc) (h2 : VO O r' Rb Rc (rBl b2)) : EvT t O (tChain r r' ta tb tc) (rBl (b1 && b2)) := fun s G H T o sb Q q =>
  ha s G H T o sb _ fun x G1 H1 s1 hx => hb s G1 H1 (T.mono s1.gg) (o.step s1.gg s1.ex) s1.sub _ fun y G2 H2 s2 hy => by
    have s12 := s1.trans s2
    refine h1 G2 H2 x y (Ra.mono _ _ _ s2.gg hx) hy (o.step s12.gg s12.ex) s2.sub _ fun z G3 H3 s3 hz => ?_
    have s13 := s12.trans s3
    refine ⟨b1, hz, ?_⟩
    cases b1 with
    | false => exact iteF (q _ G3 H3 s13 rfl)
    | true =>
      refine iteT (hc s G3 H3 (T.mono s13.gg) (o.step s13.gg s13.ex) s13.sub _ fun w G4 H4 s4 hw => ?_)
      have s14 := s13.trans s4
      exact h2 G4 H4 y w (Rb.mono _ _ _ (s3.gg.trans s4.gg) hy) hw (o.step s14.gg s14.ex) s4.sub _ fun z G5 H5 s5 hz => q z G5 H5 (s14.trans s5) hz
theorem AllK.lookup : ∀ {l : List (Str × V)} {r : List (Str × Rp)} {G : Hp} {f : Str} {R : Rp}, AllK l r G → r.lookup f = some R → ∃ v, l.lookup f = some v ∧ R.p v G
  | [], [], _, _, _, _, e => by cases e
  | p :: l, q :: r, G, f, R, h, e => by
    obtain ⟨a, v⟩ := p
    obtain ⟨a', S⟩ := q
    have e1 : a = a' := h.1.1
    subst e1
    rw [List.lookup_cons] at e ⊢
    cases hf : f == a with
    | true =>
      rw [hf] at e
      have e : some S = some R := e
      cases e
      exact ⟨v, rfl, h.1.2⟩
    | false =>
      rw [hf] at e
      exact AllK.lookup h.2 e
  | [], _ :: _, _, _, _, h, _ => h.elim
  | _ :: _, [], _, _, _, h, _ => h.elim
theorem ev_fld {C : Addr} {f : Str} {fs : List (Str × Rp)} (ha : EvT t O ta (rIns C fs)) (hc : Cls K C) (hn : NoAttr K C f) (hl : fs.lookup f = some R) : EvT t O (tFld K ta f) R := fun s G H T o sb Q q =>
  ha s G H T o sb _ fun x G1 H1 s1 hx => by
    obtain ⟨a, dx, l, rfl, h1, h2⟩ := hx
    obtain ⟨v, h3, h4⟩ := h2.lookup hl
    exact ⟨a, C, dx, l, v, rfl, s1.sub.at_ h1 rfl, hc, hn, h3, q v G1 H1 s1 h4⟩
/-- b is b2 -/
theorem vo_isB {b c : Bool} : VO O rIsB (rBl b) (rBl c) (rBl (decide (b = c))) := VO.val fun _ _ _ _ hx hy _ _ => ⟨_, fun _ q => ⟨b, c, hx, hy, q⟩, rfl⟩
theorem vo_notB {b c : Bool} : VO O rNotB (rBl b) (rBl c) (rBl (!decide (b = c))) := VO.val fun _ _ _ _ hx hy _ _ => ⟨_, fun _ q => ⟨b, c, hx, hy, q⟩, rfl⟩
theorem ev_isN {v : V} (ha : EvT t O ta (rIs v)) : EvT t O (tIsN ta) (rBl (decide (v = .non))) := fun s G H T o sb Q q => ha s G H T o sb _ fun x G1 H1 s1 hx => by
  have e : x = v := hx
  subst e; exact q _ G1 H1 s1 rfl
theorem ev_notN {v : V} (ha : EvT t O ta (rIs v)) : EvT t O (tNotN ta) (rBl (!decide (v = .non))) := fun s G H T o sb Q q => ha s G H T o sb _ fun x G1 H1 s1 hx => by
  have e : x = v := hx
  subst e; exact q _ G1 H1 s1 rfl

/-! ### equality of data -/
/-- data at any depth -/
inductive Da where
  | non | bl (b : Bool) | int (i : Int) | tup (ds : List Da) | lst (ds : List Da)
mutual
def Da.rp : Da → Rp
  | .non => rNon
  | .bl b => rBl b
  | .int i => rInt i
  | .tup ds => rTup (Da.rps ds)
  | .lst ds => rLst (Da.rps ds)
def Da.rps : List Da → List Rp
  | [] => []
  | d :: ds => Da.rp d :: Da.rps ds
end
mutual
def Da.py : Da → PyData
  | .non => .none
  | .bl b => .bool b
  | .int i => .int i
  | .tup ds => .tuple (Da.pys ds)
  | .lst ds => .list (Da.pys ds)
def Da.pys : List Da → List PyData
  | [] => []
  | d :: ds => Da.py d :: Da.pys ds
end
mutual
theorem Da.dp {G H : Hp} (sb : Sub G H) : ∀ (d : Da) (v : V), d.rp.p v G → Dp K H v d.py
  | .non, v, h => by
    have e : v = .non := by simpa [Da.rp, rIs] using h
    subst e; simp only [Da.py]; exact .non
  | .bl b, v, h => by
    have e : v = .bl b := by simpa [Da.rp, rIs] using h
    subst e; simp only [Da.py]; exact .bl b
  | .int i, v, h => by
    have e : v = .int i := by simpa [Da.rp, rIs] using h
    subst e; simp only [Da.py]; exact .int i
  | .tup ds, v, h => by
    simp only [Da.rp] at h
    obtain ⟨a, vs, rfl, h1, h2⟩ := h
    simp only [Da.py]
    exact .tup (sb.tup h1) (Da.dps sb ds vs h2)
  | .lst ds, v, h => by
    simp only [Da.rp] at h
    obtain ⟨a, vs, rfl, h1, h2⟩ := h
    simp only [Da.py]
    exact .lst (sb.lst h1) (Da.dps sb ds vs h2)
theorem Da.dps {G H : Hp} (sb : Sub G H) : ∀ (ds : List Da) (vs : List V), All2 vs (Da.rps ds) G → DpAll K H vs (Da.pys ds)
  | [], [], h => by simp only [Da.pys]; exact .nil
  | [], _ :: _, h => by simp only [Da.rps] at h; exact h.elim
  | d :: ds, [], h => by simp only [Da.rps] at h; exact h.elim
  | d :: ds, v :: vs, h => by
    simp only [Da.rps] at h
    simp only [Da.pys]
    exact .cons (Da.dp sb d v h.1) (Da.dps sb ds vs h.2)
end
theorem vo_eqD {d e : Da} (h1 : SeqAt.shaped d.py = true) (h2 : SeqAt.shaped e.py = true) : VO O (rEqD K) d.rp e.rp (rBl (PyData.eqv d.py e.py)) := VO.val fun G H x y hx hy _ sb => ⟨_, fun _ q => ⟨d.py, e.py, Da.dp sb d x hx, Da.dp sb e y hy, h1, h2, q⟩, rfl⟩
theorem vo_neD {d e : Da} (h1 : SeqAt.shaped d.py = true) (h2 : SeqAt.shaped e.py = true) : VO O (rNeD K) d.rp e.rp (rBl (!PyData.eqv d.py e.py)) := VO.val fun G H x y hx hy _ sb => ⟨_, fun _ q => ⟨d.py, e.py, Da.dp sb d x hx, Da.dp sb e y hy, h1, h2, q⟩, rfl⟩
def daI (ns : List Int) : List Da := ns.map Da.int
theorem daI_rps : ∀ ns : List Int, Da.rps (daI ns) = ns.map fun n => rIs (.int n)
  | [] => by simp [daI, Da.rps]
  | n :: ns => by
    have ih := daI_rps ns
    simp only [daI, List.map_cons, Da.rps, Da.rp] at ih ⊢
    rw [ih]
theorem daI_rp (ns : List Int) : (Da.tup (daI ns)).rp = rTI ns := by simp only [Da.rp]; rw [daI_rps]
theorem daI_rpL (ns : List Int) : (Da.lst (daI ns)).rp = rLI ns := by simp only [Da.rp]; rw [daI_rps]
theorem eqv_ints : ∀ ns ms : List Int, PyData.eqvAll (Da.pys (daI ns)) (Da.pys (daI ms)) = decide (ns = ms)
  | [], [] => by simp [daI, Da.pys, PyData.eqvAll]
  | [], _ :: _ => by simp [daI, Da.pys, PyData.eqvAll]
  | _ :: _, [] => by simp [daI, Da.pys, PyData.eqvAll]
  | n :: ns, m :: ms => by
    have ih := eqv_ints ns ms
    simp only [daI, List.map_cons, Da.pys, Da.py, PyData.eqvAll, PyData.eqv] at ih ⊢
    rw [ih]
    by_cases h : n = m
    · subst h; simp
    · simp [h]
theorem canLay_ints : ∀ ns : List Int, (Da.pys (daI ns)).all PyData.canLay0 = true ∧ PyData.canLayAll0 (Da.pys (daI ns)) = true
  | [] => by simp [daI, Da.pys, PyData.canLayAll0]
  | n :: ns => by
    have ih := canLay_ints ns
    simp only [daI, List.map_cons, Da.pys, Da.py] at ih ⊢
    refine ⟨?_, ?_⟩
    · rw [List.all_cons, ih.1]; simp [PyData.canLay0]
    · simp only [PyData.canLayAll0, PyData.canLay0, ih.2, Bool.and_self]
end
end Rz
set_option Elab.async false
set_option linter.all false
set_option maxRecDepth 100000
set_option maxHeartbeats 2000000
/-! Rz7: dicts, slices, sums of tuples and lists, walks of pairs, changes of own objects. Own work. -/
namespace Rz
open PySem PySem.Spec L2

/-! ### pairs by key -/
section
variable {κ α : Type} [DecidableEq κ]
def lk (l : List (κ × α)) (k : κ) : Option α := (l.find? fun e => decide (e.1 = k)).map (·.2)
def pk (l : List (κ × α)) (k : κ) (a : α) : List (κ × α) := if (l.any fun e => decide (e.1 = k)) = true then l.map (fun e => if e.1 = k then (e.1, a) else e) else l ++ [(k, a)]
theorem lk_nil {k : κ} : lk ([] : List (κ × α)) k = none := rfl
theorem lk_cons {p : κ × α} {l : List (κ × α)} {k : κ} : lk (p :: l) k = if p.1 = k then some p.2 else lk l k := by
  unfold lk
  rw [List.find?_cons]
  by_cases h : p.1 = k
  · simp [h]
  · simp [h]
theorem lk_map {β : Type} {f : α → β} {l : List (κ × α)} {k : κ} : lk (l.map fun e => (e.1, f e.2)) k = (lk l k).map f := by
  induction l with
  | nil => rfl
  | cons p l ih =>
    rw [List.map_cons, lk_cons, lk_cons]
    by_cases h : p.1 = k
    · simp [h]
    · simp only [h, if_false]; exact ih
theorem pk_map {β : Type} {f : α → β} {l : List (κ × α)} {k : κ} {a : α} : pk (l.map fun e => (e.1, f e.2)) k (f a) = (pk l k a).map fun e => (e.1, f e.2) := by
  unfold pk
  rw [List.any_map]
  have e : (fun e : κ × β => decide (e.1 = k)) ∘ (fun e : κ × α => (e.1, f e.2)) = fun e => decide (e.1 = k) := rfl
  rw [e]
  split
  · rw [List.map_map, List.map_map]
    apply List.map_congr_left
    intro p _
    show (if p.1 = k then (p.1, f a) else (p.1, f p.2)) = (_, _)
    by_cases h : p.1 = k
    · simp [h]
    · simp [h]
  · rw [List.map_append]; rfl
theorem lk_mem {l : List (κ × α)} {k : κ} {a : α} (h : lk l k = some a) : (k, a) ∈ l := by
  induction l with
  | nil => cases h
  | cons p l ih =>
    rw [lk_cons] at h
    by_cases e : p.1 = k
    · rw [if_pos e] at h
      cases h
      obtain ⟨x, y⟩ := p
      have e : x = k := e
      subst e
      exact List.mem_cons_self
    · rw [if_neg e] at h
      exact List.mem_cons_of_mem _ (ih h)
theorem lk_of_mem {l : List (κ × α)} {k : κ} {a : α} (nd : (l.map (·.1)).Nodup) (h : (k, a) ∈ l) : lk l k = some a := by
  induction l with
  | nil => cases h
  | cons p l ih =>
    rw [List.map_cons, List.nodup_cons] at nd
    rw [lk_cons]
    rcases List.mem_cons.mp h with e | h
    · subst e; simp
    · have ne : p.1 ≠ k := fun e => nd.1 (by rw [e]; exact List.mem_map.mpr ⟨(k, a), h, rfl⟩)
      rw [if_neg ne]; exact ih nd.2 h
theorem lk_none {l : List (κ × α)} {k : κ} : lk l k = none ↔ k ∉ l.map (·.1) := by
  induction l with
  | nil => simp [lk_nil]
  | cons p l ih =>
    rw [lk_cons, List.map_cons, List.mem_cons]
    by_cases e : p.1 = k
    · simp [e]
    · rw [if_neg e, ih]
      constructor
      · intro h q
        rcases q with q | q
        · exact e q.symm
        · exact h q
      · intro h q; exact h (.inr q)
theorem lk_some {l : List (κ × α)} {k : κ} : (lk l k).isSome = true ↔ k ∈ l.map (·.1) := by
  cases h : lk l k with
  | none => simp; rw [lk_none] at h; simpa using h
  | some a => simp; exact ⟨a, lk_mem h⟩
theorem any_key {l : List (κ × α)} {k : κ} : (l.any fun e => decide (e.1 = k)) = true ↔ k ∈ l.map (·.1) := by
  rw [List.any_eq_true, List.mem_map]
  constructor
  · rintro ⟨e, h1, h2⟩; exact ⟨e, h1, of_decide_eq_true h2⟩
  · rintro ⟨e, h1, h2⟩; exact ⟨e, h1, decide_eq_true h2⟩
theorem pk_in {l : List (κ × α)} {k : κ} {a : α} (h : k ∈ l.map (·.1)) : pk l k a = l.map (fun e => if e.1 = k then (e.1, a) else e) := if_pos (any_key.mpr h)
theorem pk_out {l : List (κ × α)} {k : κ} {a : α} (h : k ∉ l.map (·.1)) : pk l k a = l ++ [(k, a)] := if_neg (fun q => h (any_key.mp q))
theorem pk_keys {l : List (κ × α)} {k : κ} {a : α} : (pk l k a).map (·.1) = if k ∈ l.map (·.1) then l.map (·.1) else l.map (·.1) ++ [k] := by
  by_cases h : k ∈ l.map (·.1)
  · rw [pk_in h, if_pos h, List.map_map]
    apply List.map_congr_left
    intro e _
    show (if e.1 = k then (e.1, a) else e).1 = e.1
    split <;> rfl
  · rw [pk_out h, if_neg h, List.map_append]; rfl
theorem pk_nd {l : List (κ × α)} {k : κ} {a : α} (h : (l.map (·.1)).Nodup) : ((pk l k a).map (·.1)).Nodup := by
  rw [pk_keys]
  split
  · exact h
  · rename_i q
    exact List.nodup_append.mpr ⟨h, by simp, fun x hx y hy e => by
      rw [List.mem_singleton] at hy
      subst hy
      subst e
      exact q hx⟩
theorem lk_app {l m : List (κ × α)} {k : κ} : lk (l ++ m) k = (lk l k).or (lk m k) := by
  induction l with
  | nil => simp [lk_nil]
  | cons p l ih =>
    rw [List.cons_append, lk_cons, lk_cons]
    by_cases e : p.1 = k
    · simp [e]
    · simp only [e, if_false]; exact ih
theorem lk_pk {l : List (κ × α)} {k j : κ} {a : α} : lk (pk l k a) j = if k = j then some a else lk l j := by
  by_cases h : k ∈ l.map (·.1)
  · rw [pk_in h]
    induction l with
    | nil => cases h
    | cons p l ih =>
      rw [List.map_cons, lk_cons, lk_cons]
      by_cases e : p.1 = k
      · by_cases e2 : k = j
        · simp [e, e2]
        · simp only [e, if_true, e2, if_false]
          by_cases hk : k ∈ l.map (·.1)
          · have := ih hk
            simpa [e2] using this
          · clear ih h
            have : l.map (fun e => if e.1 = k then (e.1, a) else e) = l := by
              have h2 : l.map (fun e => if e.1 = k then (e.1, a) else e) = l.map id := by
                apply List.map_congr_left
                intro q hq
                have : q.1 ≠ k := fun z => hk (List.mem_map.mpr ⟨q, hq, z⟩)
                simp [this]
              rw [h2, List.map_id]
            rw [this]
      · have hk : k ∈ l.map (·.1) := by
          rw [List.map_cons] at h
          rcases List.mem_cons.mp h with q | q
          · exact absurd q.symm e
          · exact q
        simp only [e, if_false]
        have h3 := ih hk
        by_cases e3 : p.1 = j
        · have : k ≠ j := fun z => e (by rw [e3, z])
          simp [e3, this]
        · simp only [e3, if_false]; exact h3
  · rw [pk_out h, lk_app]
    by_cases e2 : k = j
    · subst e2
      rw [lk_none.mpr h]; simp [lk_cons]
    · simp [lk_cons, e2, lk_nil]
theorem pk_len {l : List (κ × α)} {k : κ} {a : α} : (pk l k a).length ≤ l.length + 1 := by
  by_cases h : k ∈ l.map (·.1)
  · rw [pk_in h, List.length_map]; omega
  · rw [pk_out h, List.length_append]; simp
theorem AllK.lk : ∀ {l : List (κ × V)} {r : List (κ × Rp)} {G : Hp} {k : κ}, AllK l r G → (∀ R, Rz.lk r k = some R → ∃ v, valV l k = some v ∧ R.p v G) ∧ (Rz.lk r k = none → valV l k = none)
  | [], [], _, k, _ => ⟨fun R h => by (cases h), fun _ => rfl⟩
  | p :: l, q :: r, G, k, h => by
    obtain ⟨⟨e, hp⟩, ht⟩ := h
    rw [lk_cons]
    by_cases hk : q.1 = k
    · rw [if_pos hk, valV_pos (e.trans hk)]
      exact ⟨fun R hR => by cases hR; exact ⟨_, rfl, hp⟩, fun h => by cases h⟩
    · rw [if_neg hk, valV_neg (fun z => hk (e.symm.trans z))]
      exact AllK.lk ht
  | [], _ :: _, _, _, h => h.elim
  | _ :: _, [], _, _, h => h.elim
theorem AllK.keys : ∀ {l : List (κ × V)} {r : List (κ × Rp)} {G : Hp}, AllK l r G → l.map (·.1) = r.map (·.1)
  | [], [], _, _ => rfl
  | p :: l, q :: r, G, h => by rw [List.map_cons, List.map_cons, h.1.1, AllK.keys h.2]
  | [], _ :: _, _, h => h.elim
  | _ :: _, [], _, h => h.elim
theorem AllK.app : ∀ {l m : List (κ × V)} {r q : List (κ × Rp)} {G : Hp}, AllK l r G → AllK m q G → AllK (l ++ m) (r ++ q) G
  | [], _, [], _, _, _, h => h
  | _ :: _, _, _ :: _, _, _, h, k => ⟨h.1, AllK.app h.2 k⟩
  | [], _, _ :: _, _, _, h, _ => h.elim
  | _ :: _, _, [], _, _, h, _ => h.elim
theorem AllK.upds : ∀ {l : List (κ × V)} {r : List (κ × Rp)} {G : Hp} {k : κ} {v : V} {R : Rp}, AllK l r G → R.p v G → AllK (l.map fun e => if e.1 = k then (e.1, v) else e) (r.map fun e => if e.1 = k then (e.1, R) else e) G
  | [], [], _, _, _, _, _, _ => trivial
  | p :: l, q :: r, G, k, v, R, h, hv => by
    refine ⟨?_, AllK.upds h.2 hv⟩
    obtain ⟨e, hp⟩ := h.1
    show (if p.1 = k then (p.1, v) else p).1 = (if q.1 = k then (q.1, R) else q).1 ∧ (if q.1 = k then (q.1, R) else q).2.p (if p.1 = k then (p.1, v) else p).2 G
    by_cases hk : p.1 = k
    · rw [if_pos hk, if_pos (e.symm.trans hk)]; exact ⟨e, hv⟩
    · rw [if_neg hk, if_neg (fun z : q.1 = k => hk (e.trans z))]; exact ⟨e, hp⟩
  | [], _ :: _, _, _, _, _, h, _ => h.elim
  | _ :: _, [], _, _, _, _, h, _ => h.elim
theorem AllK.put {l : List (κ × V)} {r : List (κ × Rp)} {G : Hp} {k : κ} {v : V} {R : Rp} (h : AllK l r G) (hv : R.p v G) : AllK (putK l k v) (pk r k R) G := by
  have hk := h.keys
  unfold putK pk
  by_cases hm : k ∈ r.map (·.1)
  · rw [if_pos (any_key.mpr hm), if_pos (any_key.mpr (by rw [hk]; exact hm))]
    exact h.upds hv
  · rw [if_neg (fun q => hm (any_key.mp q)), if_neg (fun q => hm (by rw [← hk]; exact any_key.mp q))]
    exact h.app ⟨⟨rfl, hv⟩, trivial⟩
end

/-- a key as a value -/
def rKey : Key → Rp := fun k => rIs (kV k)
abbrev rKT (k : List Key) : Rp := rTup (k.map rKey)
theorem rKT_at {k : List Key} {v : V} {G : Hp} (h : (rKT k).p v G) : ∃ b, v = .ref b ∧ G b = some (.tup (k.map kV)) := by
  obtain ⟨a, vs, e, h1, h2⟩ := h
  exact ⟨a, e, by rw [h1, All2.eqs (f := kV) h2]⟩
section
variable {K : PySem.W.Frag} {t : Tys} {O : Os} {ta tb tc te td ty tx : TE} {tt tu : TT} {Ra Rb Rc R R' Rx : Rp}
/-- where a dict is read: known, or as it is now -/
def DT (O : Os) (Rd0 : Rp) (r : List (List Key × Rp)) : Prop := Rd0 = rDT r ∨ ∃ p, Rd0 = rRef p ∧ HasT O p r
def DK (O : Os) (Rd0 : Rp) (r : List (Key × Rp)) : Prop := Rd0 = rDK r ∨ ∃ p, Rd0 = rRef p ∧ HasK O p r
theorem DT.at_ {Rd0 : Rp} {r : List (List Key × Rp)} {G H : Hp} {v : V} (d : DT O Rd0 r) (h : Rd0.p v G) (o : RO O G H) (sb : Sub G H) : ∃ a l, v = .ref a ∧ Rd H a (.dT l) ∧ AllK l r G := by
  rcases d with e | ⟨p, e, m⟩
  · subst e
    obtain ⟨a, l, rfl, h1, h2⟩ := h
    exact ⟨a, l, rfl, sb.rd h1, h2⟩
  · subst e
    obtain ⟨l, h1, h2⟩ := o.dT m
    exact ⟨p, l, h, h1, h2⟩
theorem DK.at_ {Rd0 : Rp} {r : List (Key × Rp)} {G H : Hp} {v : V} (d : DK O Rd0 r) (h : Rd0.p v G) (o : RO O G H) (sb : Sub G H) : ∃ a l, v = .ref a ∧ Rd H a (.dK l) ∧ AllK l r G := by
  rcases d with e | ⟨p, e, m⟩
  · subst e
    obtain ⟨a, l, rfl, h1, h2⟩ := h
    exact ⟨a, l, rfl, sb.rd h1, h2⟩
  · subst e
    obtain ⟨l, h1, h2⟩ := o.dK m
    exact ⟨p, l, h, h1, h2⟩
/-- d[k] -/
theorem ev_dgetT {r : List (List Key × Rp)} {k : List Key} {Rd0 : Rp} (hd : EvT t O td Rd0) (d : DT O Rd0 r) (hk : EvT t O ty (rKT k)) (h : lk r k = some R) : EvT t O (tDGet td ty) R := fun s G H T o sb Q q =>
  hd s G H T o sb _ fun x G1 H1 s1 hx => hk s G1 H1 (T.mono s1.gg) (o.step s1.gg s1.ex) s1.sub _ fun y G2 H2 s2 hy => by
    have s12 := s1.trans s2
    obtain ⟨a, l, rfl, h1, h2⟩ := d.at_ (Rd0.mono _ _ _ s2.gg hx) (o.step s12.gg s12.ex) s2.sub
    obtain ⟨b, rfl, hb⟩ := rKT_at hy
    obtain ⟨v, h3, h4⟩ := h2.lk.1 R h
    exact ⟨a, v, rfl, .inr ⟨l, k, b, h1, rfl, s2.sub.at_ hb rfl, h3.symm⟩, q v G2 H2 s12 h4⟩
theorem ev_dgetK {r : List (Key × Rp)} {k : Key} {Rd0 : Rp} (hd : EvT t O td Rd0) (d : DK O Rd0 r) (hk : EvT t O ty (rIs (kV k))) (h : lk r k = some R) : EvT t O (tDGet td ty) R := fun s G H T o sb Q q =>
  hd s G H T o sb _ fun x G1 H1 s1 hx => hk s G1 H1 (T.mono s1.gg) (o.step s1.gg s1.ex) s1.sub _ fun y G2 H2 s2 hy => by
    have s12 := s1.trans s2
    obtain ⟨a, l, rfl, h1, h2⟩ := d.at_ (Rd0.mono _ _ _ s2.gg hx) (o.step s12.gg s12.ex) s2.sub
    have hy : y = kV k := hy
    subst hy
    obtain ⟨v, h3, h4⟩ := h2.lk.1 R h
    exact ⟨a, v, rfl, .inl ⟨l, k, h1, rfl, h3.symm⟩, q v G2 H2 s12 h4⟩
/-- d.get(k, x) -/
theorem ev_dget2T {r : List (List Key × Rp)} {k : List Key} {Rd0 : Rp} (hd : EvT t O td Rd0) (d : DT O Rd0 r) (hk : EvT t O ty (rKT k)) (hx : EvT t O tx Rx) : EvT t O (tDGet2 td ty tx) ((lk r k).getD Rx) := fun s G H T o sb Q q =>
  hd s G H T o sb _ fun x G1 H1 s1 hx1 => by
    obtain ⟨a, l, rfl, h1, h2⟩ := d.at_ hx1 (o.step s1.gg s1.ex) s1.sub
    refine ⟨a, rfl, .inr ⟨l, h1⟩, hk s G1 H1 (T.mono s1.gg) (o.step s1.gg s1.ex) s1.sub _ fun y G2 H2 s2 hy => ?_⟩
    have s12 := s1.trans s2
    refine hx s G2 H2 (T.mono s12.gg) (o.step s12.gg s12.ex) s2.sub _ fun z G3 H3 s3 hz => ?_
    have s13 := s12.trans s3
    obtain ⟨b, rfl, hb⟩ := rKT_at hy
    have h1' : Rd H3 a (.dT l) := by
      rcases h1 with h1 | ⟨od, h1⟩
      · exact .inl (s3.ex _ _ (s2.ex _ _ h1))
      · exact .inr ⟨od, s3.ex _ _ (s2.ex _ _ h1)⟩
    refine ⟨valV l k, .inr ⟨l, k, b, h1', rfl, s3.sub.at_ (s3.gg _ _ hb) rfl, rfl⟩, ?_⟩
    cases hl : lk r k with
    | none =>
      rw [h2.lk.2 hl]
      exact q z G3 H3 s13 (by rw [hl]; exact hz)
    | some R =>
      obtain ⟨v, h3, h4⟩ := h2.lk.1 R hl
      rw [h3]
      exact q v G3 H3 s13 (by rw [hl]; exact R.mono _ _ _ (s2.gg.trans s3.gg) h4)
theorem ev_dget2K {r : List (Key × Rp)} {k : Key} {Rd0 : Rp} (hd : EvT t O td Rd0) (d : DK O Rd0 r) (hk : EvT t O ty (rIs (kV k))) (hx : EvT t O tx Rx) : EvT t O (tDGet2 td ty tx) ((lk r k).getD Rx) := fun s G H T o sb Q q =>
  hd s G H T o sb _ fun x G1 H1 s1 hx1 => by
    obtain ⟨a, l, rfl, h1, h2⟩ := d.at_ hx1 (o.step s1.gg s1.ex) s1.sub
    refine ⟨a, rfl, .inl ⟨l, h1⟩, hk s G1 H1 (T.mono s1.gg) (o.step s1.gg s1.ex) s1.sub _ fun y G2 H2 s2 hy => ?_⟩
    have s12 := s1.trans s2
    refine hx s G2 H2 (T.mono s12.gg) (o.step s12.gg s12.ex) s2.sub _ fun z G3 H3 s3 hz => ?_
    have s13 := s12.trans s3
    have hy : y = kV k := hy
    subst hy
    have h1' : Rd H3 a (.dK l) := by
      rcases h1 with h1 | ⟨od, h1⟩
      · exact .inl (s3.ex _ _ (s2.ex _ _ h1))
      · exact .inr ⟨od, s3.ex _ _ (s2.ex _ _ h1)⟩
    refine ⟨valV l k, .inl ⟨l, k, h1', rfl, rfl⟩, ?_⟩
    cases hl : lk r k with
    | none =>
      rw [h2.lk.2 hl]
      exact q z G3 H3 s13 (by rw [hl]; exact hz)
    | some R =>
      obtain ⟨v, h3, h4⟩ := h2.lk.1 R hl
      rw [h3]
      exact q v G3 H3 s13 (by rw [hl]; exact R.mono _ _ _ (s2.gg.trans s3.gg) h4)
/-- k in d, k not in d -/
theorem ev_inK {r : List (Key × Rp)} {k : Key} {Rd0 : Rp} (hk : EvT t O ty (rIs (kV k))) (hd : EvT t O td Rd0) (d : DK O Rd0 r) : EvT t O (tDIn ty td) (rBl (lk r k).isSome) := fun s G H T o sb Q q =>
  hk s G H T o sb _ fun y G1 H1 s1 hy => hd s G1 H1 (T.mono s1.gg) (o.step s1.gg s1.ex) s1.sub _ fun x G2 H2 s2 hx => by
    have s12 := s1.trans s2
    obtain ⟨a, l, rfl, h1, h2⟩ := d.at_ hx (o.step s12.gg s12.ex) s2.sub
    have hy : y = kV k := hy
    subst hy
    refine ⟨a, valV l k, rfl, .inl ⟨l, k, h1, rfl, rfl⟩, q _ G2 H2 s12 ?_⟩
    show V.bl _ = V.bl _
    congr 1
    cases hl : lk r k with
    | none =>
      rw [h2.lk.2 hl]; rfl
    | some R =>
      obtain ⟨v, h3, _⟩ := h2.lk.1 R hl
      rw [h3]; rfl
theorem ev_notInK {r : List (Key × Rp)} {k : Key} {Rd0 : Rp} (hk : EvT t O ty (rIs (kV k))) (hd : EvT t O td Rd0) (d : DK O Rd0 r) : EvT t O (tDNotIn ty td) (rBl (!(lk r k).isSome)) := fun s G H T o sb Q q =>
  hk s G H T o sb _ fun y G1 H1 s1 hy => hd s G1 H1 (T.mono s1.gg) (o.step s1.gg s1.ex) s1.sub _ fun x G2 H2 s2 hx => by
    have s12 := s1.trans s2
    obtain ⟨a, l, rfl, h1, h2⟩ := d.at_ hx (o.step s12.gg s12.ex) s2.sub
    have hy : y = kV k := hy
    subst hy
    refine ⟨a, valV l k, rfl, .inl ⟨l, k, h1, rfl, rfl⟩, q _ G2 H2 s12 ?_⟩
    show V.bl (!_) = V.bl (!_)
    congr 2
    cases hl : lk r k with
    | none =>
      rw [h2.lk.2 hl]; rfl
    | some R =>
      obtain ⟨v, h3, _⟩ := h2.lk.1 R hl
      rw [h3]; rfl
end

/-! ### changes of own objects -/
section
variable {K : PySem.W.Frag} {Y : List Addr} {t : Tys} {O : Os} {W : List Addr} {te td ty ta tv : TE} {tr : TA} {tu : TS} {R Ra Rd0 : Rp} {Nx : Nxt} {Rt : Rts} {p : Addr} {k : Nat}
/-- d[k] = v -/
theorem ht_dputK {r : List (Key × Rp)} {j : Key} (hv : EvT t O tv R) (hd : EvT t O td (rRef p)) (hk : EvT t O ty (rIs (kV j))) (hO : O[k]? = some (p, .dK r)) (hw : p ∈ W ∨ p ∈ Y) (hl : r.length < sizeLine) (h : Nx t (O.set k (p, .dK (pk r j R))) W) :
    HT Y t O W (sDPut td ty tv) Nx Rt := fun b s H ⟨G, a⟩ D n rr =>
  hv s G H a.ty a.ro a.sub _ fun v G1 H1 s1 hv1 => hd s G1 H1 (a.step s1).ty (a.step s1).ro s1.sub _ fun x G2 H2 s2 hx => hk s G2 H2 ((a.step s1).step s2).ty ((a.step s1).step s2).ro s2.sub _ fun y G3 H3 s3 hy => by
    have a3 := ((a.step s1).step s2).step s3
    have hx : x = .ref p := hx
    have hy : y = kV j := hy
    subst hx hy
    obtain ⟨u, h1, h2⟩ := a3.ro _ (List.mem_of_getElem? hO)
    cases u with
    | dK l =>
      refine ⟨p, _, rfl, .inl ⟨l, j, h1, rfl, by rw [AllK.length h2]; exact hl, rfl⟩, ?_⟩
      exact n _ _ _ _ _ h ⟨G3, a3.put hO hw h1 (AllK.put h2 (R.mono _ _ _ (s2.gg.trans s3.gg) hv1)) rfl⟩
    | _ => exact h2.elim
theorem ht_dputT {r : List (List Key × Rp)} {j : List Key} (hv : EvT t O tv R) (hd : EvT t O td (rRef p)) (hk : EvT t O ty (rKT j)) (hO : O[k]? = some (p, .dT r)) (hw : p ∈ W ∨ p ∈ Y) (hl : r.length < sizeLine) (h : Nx t (O.set k (p, .dT (pk r j R))) W) :
    HT Y t O W (sDPut td ty tv) Nx Rt := fun b s H ⟨G, a⟩ D n rr =>
  hv s G H a.ty a.ro a.sub _ fun v G1 H1 s1 hv1 => hd s G1 H1 (a.step s1).ty (a.step s1).ro s1.sub _ fun x G2 H2 s2 hx => hk s G2 H2 ((a.step s1).step s2).ty ((a.step s1).step s2).ro s2.sub _ fun y G3 H3 s3 hy => by
    have a3 := ((a.step s1).step s2).step s3
    have hx : x = .ref p := hx
    subst hx
    obtain ⟨c, rfl, hc⟩ := rKT_at hy
    obtain ⟨u, h1, h2⟩ := a3.ro _ (List.mem_of_getElem? hO)
    cases u with
    | dT l =>
      refine ⟨p, _, rfl, .inr ⟨l, j, c, h1, rfl, s3.sub.at_ hc rfl, by rw [AllK.length h2]; exact hl, rfl⟩, ?_⟩
      exact n _ _ _ _ _ h ⟨G3, a3.put hO hw h1 (AllK.put h2 (R.mono _ _ _ (s2.gg.trans s3.gg) hv1)) rfl⟩
    | _ => exact h2.elim
theorem hs_of {ts : TS} {O' : Os} (h : ∀ {Nx : Nxt} {Rt : Rts}, Nx t O' W → HT Y t O W ts Nx Rt) (k : HT Y t O' W tu Nx Rt) : HT Y t O W (tSeq ts tu) Nx Rt :=
  ht_seq (Nx := fun t1 O1 W1 => t1 = t ∧ O1 = O' ∧ W1 = W) (h ⟨rfl, rfl, rfl⟩) fun _ _ _ ⟨e1, e2, e3⟩ => k.eq e1 e2 e3
/-- xs.append(e) -/
theorem ht_append {Rs : List Rp} (ho : EvT t O ta (rRef p)) (ha : EvT t O te R) (hO : O[k]? = some (p, .lst Rs)) (hw : p ∈ W ∨ p ∈ Y) (hl : Rs.length < sizeLine) (h : Nx t (O.set k (p, .lst (Rs ++ [R]))) W) :
    HT Y t O W (tDrop (tBM K "list" rAppend ta (tCons te tNil))) Nx Rt := fun b s H ⟨G, a⟩ D n rr =>
  ho s G H a.ty a.ro a.sub _ fun x G1 H1 s1 hx => by
    have a1 := a.step s1
    have hx : x = .ref p := hx
    subst hx
    obtain ⟨vs0, h0, _⟩ := a1.ro.lst (List.mem_of_getElem? hO)
    refine ⟨.inl ⟨rfl, _, SqL.of h0⟩, ?_⟩
    refine ha s G1 H1 a1.ty a1.ro s1.sub _ fun v G2 H2 s2 hv => ?_
    have a2 := a1.step s2
    obtain ⟨vs, h1, h2⟩ := a2.ro.lst (List.mem_of_getElem? hO)
    refine ⟨p, vs, v, rfl, rfl, h1, by rw [h2.length]; exact hl, ?_⟩
    exact n _ _ _ _ _ h ⟨G2, a2.put hO hw h1 (h2.snoc hv) rfl⟩
end

/-! ### slices, sums -/
theorem cutV_from (xs : List V) (k : Nat) : cutV xs (some (k : Int)) none = xs.drop k := by
  unfold cutV
  rw [HT.sIx_nat, HT.sIx_none]
  by_cases h : k ≤ xs.length
  · rw [Nat.min_eq_left h]
    apply List.take_of_length_le
    rw [List.length_drop]; exact Nat.le_refl _
  · rw [Nat.min_eq_right (by omega), Nat.sub_self, List.take_zero, List.drop_eq_nil_of_le (by omega)]
theorem cutV_to (xs : List V) (k : Nat) : cutV xs none (some (k : Int)) = xs.take k := by
  unfold cutV
  rw [HT.sIx_nat, HT.sIx_none, List.drop_zero, Nat.sub_zero]
  by_cases h : k ≤ xs.length
  · rw [Nat.min_eq_left h]
  · rw [Nat.min_eq_right (by omega), List.take_of_length_le (Nat.le_refl _), List.take_of_length_le (by omega)]
section
variable {K : PySem.W.Frag} {t : Tys} {O : Os} {ta tb te th : TE} {Rs Ss : List Rp}
/-- xs[k:], k written; xs[:n] -/
theorem ev_fromL {k : Int} {j : Nat} (h : EvT t O te (rLst Rs)) (e : k = (j : Int) := by rfl) : EvT t O (tSl (rSlL K) te (tPart (tC (.int k))) tNoPart) (rLst (Rs.drop j)) := fun s G H T o sb Q q => h s G H T o sb _ fun v G1 H1 s1 hv => by
  obtain ⟨a, vs, rfl, h1, h2⟩ := hv
  subst e
  refine ⟨j, rfl, a, vs, rfl, s1.sub.lst h1, fun l hl => ?_⟩
  rw [cutV_from]
  exact q _ _ _ (s1.trans (Step.new s1.sub hl)) ⟨l, _, rfl, upd_same, (h2.drop j).mono (Ex.new (s1.sub.none hl))⟩
theorem ev_toL {n : Int} {j : Nat} (h : EvT t O te (rLst Rs)) (hn : EvT t O th (rInt n)) (e : n = (j : Int)) : EvT t O (tSl (rSlL K) te tNoPart (tPart th)) (rLst (Rs.take j)) := fun s G H T o sb Q q => h s G H T o sb _ fun v G1 H1 s1 hv => by
  obtain ⟨a, vs, rfl, h1, h2⟩ := hv
  subst e
  refine hn s G1 H1 (T.mono s1.gg) (o.step s1.gg s1.ex) s1.sub _ fun y G2 H2 s2 hy => ?_
  have s12 := s1.trans s2
  refine ⟨j, hy, a, vs, rfl, s2.sub.lst (s2.gg _ _ h1), fun l hl => ?_⟩
  rw [cutV_to]
  exact q _ _ _ (s12.trans (Step.new s2.sub hl)) ⟨l, _, rfl, upd_same, ((h2.mono s2.gg).take j).mono (Ex.new (s2.sub.none hl))⟩
theorem ev_fromT {k : Int} {j : Nat} (h : EvT t O te (rTup Rs)) (e : k = (j : Int) := by rfl) : EvT t O (tSl (rSlA K) te (tPart (tC (.int k))) tNoPart) (rTup (Rs.drop j)) := fun s G H T o sb Q q => h s G H T o sb _ fun v G1 H1 s1 hv => by
  obtain ⟨a, vs, rfl, h1, h2⟩ := hv
  subst e
  refine ⟨j, rfl, a, vs, rfl, s1.sub.tup h1, fun w => ?_, fun _ l hl => ?_⟩
  · have hz : j = 0 ∨ vs.length = 0 := by
      have w1 := w.1
      rw [HT.sIx_nat] at w1; omega
    have e2 : Rs.drop j = Rs := by
      rcases hz with z | z
      · rw [z]; rfl
      · have : Rs = [] := List.eq_nil_of_length_eq_zero (by rw [← h2.length]; exact z)
        rw [this]; simp
    refine q _ _ _ s1 ⟨a, vs, rfl, h1, ?_⟩
    rw [e2]; exact h2
  · rw [cutV_from]
    exact q _ _ _ (s1.trans (Step.new s1.sub hl)) ⟨l, _, rfl, upd_same, (h2.drop j).mono (Ex.new (s1.sub.none hl))⟩
theorem vo_catT (hz : Rs.length + Ss.length ≤ sizeLine) : VO O (rCatA K) (rTup Rs) (rTup Ss) (rTup (Rs ++ Ss)) := fun G H x y hx hy _ sb Q q => by
  obtain ⟨a, vs, rfl, h1, h2⟩ := hx
  obtain ⟨b, ws, rfl, h3, h4⟩ := hy
  refine ⟨a, b, vs, ws, rfl, rfl, sb.tup h1, sb.tup h3, by rw [h2.length, h4.length]; exact hz, fun e => ?_, fun _ e => ?_, fun _ _ l hl => ?_⟩
  · refine q _ G H (Step.refl sb) ⟨b, ws, rfl, h3, ?_⟩
    subst e
    have h5 := h2.app h4
    exact h5
  · refine q _ G H (Step.refl sb) ⟨a, vs, rfl, h1, ?_⟩
    subst e
    have h5 := h2.app h4
    rwa [List.append_nil] at h5
  · exact q _ _ _ (Step.new sb hl) ⟨l, _, rfl, upd_same, (h2.app h4).mono (Ex.new (sb.none hl))⟩
theorem vo_catL (hz : Rs.length + Ss.length ≤ sizeLine) : VO O rCat (rLst Rs) (rLst Ss) (rLst (Rs ++ Ss)) := fun G H x y hx hy _ sb Q q => by
  obtain ⟨a, vs, rfl, h1, h2⟩ := hx
  obtain ⟨b, ws, rfl, h3, h4⟩ := hy
  exact ⟨a, b, vs, ws, rfl, rfl, sb.at_ h1 rfl, sb.at_ h3 rfl, by rw [h2.length, h4.length]; exact hz, fun l hl => q _ _ _ (Step.new sb hl) ⟨l, _, rfl, upd_same, (h2.app h4).mono (Ex.new (sb.none hl))⟩⟩
/-- xs[::-1] -/
theorem ev_revL (h : EvT t O te (rLst Rs)) : EvT t O (tRevL K te) (rLst Rs.reverse) := fun s G H T o sb Q q => h s G H T o sb _ fun v G1 H1 s1 hv => by
  obtain ⟨a, vs, rfl, h1, h2⟩ := hv
  exact ⟨a, vs, rfl, s1.sub.lst h1, fun l hl => q _ _ _ (s1.trans (Step.new s1.sub hl)) ⟨l, _, rfl, upd_same, h2.rev.mono (Ex.new (s1.sub.none hl))⟩⟩

/-! ### walks of pairs -/
theorem zip_get {Rs Ss : List Rp} {i : Nat} {R : Rp} (h : (List.zipWith (fun a b => rTup [a, b]) Rs Ss)[i]? = some R) : ∃ A B, Rs[i]? = some A ∧ Ss[i]? = some B ∧ R = rTup [A, B] := by
  rw [List.getElem?_zipWith] at h
  cases hA : Rs[i]? with
  | none => rw [hA] at h; cases h
  | some A =>
    cases hB : Ss[i]? with
    | none => rw [hA, hB] at h; cases h
    | some B => rw [hA, hB] at h; cases h; exact ⟨A, B, rfl, rfl, rfl⟩
theorem src_zipT {tr : TA} (h : EvA t O tr [rTup Rs, rTup Ss]) : SrcT t O (RZ.iZipA K tr) (List.zipWith (fun a b => rTup [a, b]) Rs Ss) := fun s G H T o sb Rk q => h s G H T o sb _ fun vs G' H' st hv => by
  match vs, hv with
  | [v, w], hv =>
    obtain ⟨⟨a, xs, rfl, ha, hx⟩, ⟨b, ys, rfl, hb, hy⟩, _⟩ := hv
    refine ⟨a, b, xs, ys, rfl, .inr ⟨st.sub.tup ha, st.sub.tup hb, q _ G' H' st ⟨fun i H2 G2 hi e s2 => ?_, fun H2 G2 e s2 => ?_, fun i H2 G2 x H3 R hR e s2 y => ?_⟩⟩⟩
    · rw [List.length_zipWith] at hi
      have h1 : i < xs.length := by rw [hx.length]; omega
      have h2 : i < ys.length := by rw [hy.length]; omega
      exact ⟨xs, ys, xs[i], ys[i], s2.tup (e _ _ ha), s2.tup (e _ _ hb), by simp [h1], by simp [h2]⟩
    · refine ⟨xs, ys, s2.tup (e _ _ ha), s2.tup (e _ _ hb), ?_⟩
      rw [List.length_zipWith, hx.length, hy.length]; omega
    · obtain ⟨A, B, hA, hB, rfl⟩ := zip_get hR
      obtain ⟨T1, x1, y1, rfl, hT, rfl, f1, f2⟩ := y
      obtain ⟨v1, k1, k2⟩ := hx.get hA
      obtain ⟨w1, k3, k4⟩ := hy.get hB
      have e1 := f1 xs (s2.tup (e _ _ ha))
      have e2 := f2 ys (s2.tup (e _ _ hb))
      rw [k1] at e1; cases e1
      rw [k3] at e2; cases e2
      have ee : Ex G' (upd G2 T1 (.tup [x1, y1])) := e.trans (Ex.new (s2.none hT))
      exact ⟨_, Step.new s2 hT, T1, _, rfl, upd_same, A.mono _ _ _ ee k2, B.mono _ _ _ ee k4, trivial⟩
theorem enum_get {Rs : List Rp} {i : Nat} {R : Rp} (h : (Rs.zipIdx.map fun p => rTup [rInt (p.2 : Int), p.1])[i]? = some R) : ∃ A, Rs[i]? = some A ∧ R = rTup [rInt (i : Int), A] := by
  rw [List.getElem?_map, List.getElem?_zipIdx] at h
  cases hA : Rs[i]? with
  | none => rw [hA] at h; cases h
  | some A =>
    rw [hA] at h
    simp at h
    exact ⟨A, rfl, h.symm⟩
theorem src_enumL {tr : TA} (h : EvA t O tr [rLst Rs]) : SrcT t O (iEnum K tr) (Rs.zipIdx.map fun p => rTup [rInt (p.2 : Int), p.1]) := fun s G H T o sb Rk q => h s G H T o sb _ fun vs G' H' st hv => by
  match vs, hv with
  | [v], hv =>
    obtain ⟨⟨a, xs, rfl, ha, hx⟩, _⟩ := hv
    refine ⟨a, xs, rfl, st.sub.lst ha, q _ G' H' st ⟨fun i H2 G2 hi e s2 => ?_, fun H2 G2 e s2 => ?_, fun i H2 G2 x H3 R hR e s2 y => ?_⟩⟩
    · have h1 : i < xs.length := by rw [hx.length]; simpa using hi
      exact ⟨xs, xs[i], s2.lst (e _ _ ha), by simp [h1]⟩
    · refine ⟨xs, s2.lst (e _ _ ha), ?_⟩
      rw [hx.length]; simp
    · obtain ⟨A, hA, rfl⟩ := enum_get hR
      obtain ⟨T1, x1, rfl, hT, rfl, f1⟩ := y
      obtain ⟨v1, k1, k2⟩ := hx.get hA
      have e1 := f1 xs (s2.lst (e _ _ ha))
      rw [k1] at e1; cases e1
      have ee : Ex G' (upd G2 T1 (.tup [.int (i : Nat), x1])) := e.trans (Ex.new (s2.none hT))
      exact ⟨_, Step.new s2 hT, T1, _, rfl, upd_same, rfl, A.mono _ _ _ ee k2, trivial⟩
end
/-! ### int tuples compared -/
theorem shaped_ints (ns : List Int) : SeqAt.shaped (Da.py (.tup (daI ns))) = true ∧ SeqAt.shaped (Da.py (.lst (daI ns))) = true := by
  have d : ∀ ns : List Int, PyData.depthAll (Da.pys (daI ns)) = 0 := by
    intro ns
    induction ns with
    | nil => simp [daI, Da.pys, PyData.depthAll]
    | cons n r ih =>
      simp only [daI, List.map_cons, Da.pys, Da.py, PyData.depthAll, PyData.depth] at ih ⊢
      rw [ih]; rfl
  have c := (canLay_ints ns).2
  constructor
  · simp only [Da.py, SeqAt.shaped, PyData.canLay0, PyData.depth, c, d]; rfl
  · simp only [Da.py, SeqAt.shaped, PyData.canLay0, PyData.depth, c, d]; rfl
section
variable {K : PySem.W.Frag} {O : Os} {ns ms : List Int}
theorem vo_eqT : VO O (rEqD K) (rTI ns) (rTI ms) (rBl (decide (ns = ms))) := by
  have h := vo_eqD (K := K) (O := O) (shaped_ints ns).1 (shaped_ints ms).1
  rw [daI_rp, daI_rp] at h
  simp only [Da.py, PyData.eqv, eqv_ints] at h
  exact h
theorem vo_neT : VO O (rNeD K) (rTI ns) (rTI ms) (rBl (!decide (ns = ms))) := by
  have h := vo_neD (K := K) (O := O) (shaped_ints ns).1 (shaped_ints ms).1
  rw [daI_rp, daI_rp] at h
  simp only [Da.py, PyData.eqv, eqv_ints] at h
  exact h
theorem vo_eqL : VO O (rEqD K) (rLI ns) (rLI ms) (rBl (decide (ns = ms))) := by
  have h := vo_eqD (K := K) (O := O) (shaped_ints ns).2 (shaped_ints ms).2
  rw [daI_rpL, daI_rpL] at h
  simp only [Da.py, PyData.eqv, eqv_ints] at h
  exact h
end
end Rz
set_option Elab.async false
set_option linter.all false
set_option maxRecDepth 100000
set_option maxHeartbeats 2000000
/-! Rz8: rules with the fragment written out (for the bodies of comprehensions), a module's constant. Own work. -/
namespace Rz
open PySem PySem.Spec L2
section
variable {X : Cx} (K : PySem.W.Frag)
theorem pe_cn {x : Str} {v : V} {pos : Pos} (hg : Gl X x) (h : ∃ u, X.mg x = some u ∧ RelV v u) (hd : (x == ("__debug__" : Str)) = false := by decide) : PE X (.Name x pos) (tC v) := C8.pe_gc hg h hd
theorem op_inK (e : X.K = K := by rfl) : OpR X (compareOp .In) (rIn K false) := e ▸ op_in_seq
theorem op_ninK (e : X.K = K := by rfl) : OpR X (compareOp .NotIn) (rIn K true) := e ▸ op_notIn_seq
theorem ix_tupK (e : X.K = K := by rfl) : IxR X (rIxT K) := e ▸ ix_tup
theorem ix_lstK (e : X.K = K := by rfl) : IxR X (rIxL K) := e ▸ ix_list
theorem op_catAK (e : X.K = K := by rfl) : OpR X (binaryOp .Add) (rCatA K) := e ▸ op_catA
theorem op_eqDK (hu : X.A.units + 64 < cLine) (e : X.K = K := by rfl) : OpR X (compareOp .Eq) (rEqD K) := e ▸ op_eqD hu
theorem op_neDK (hu : X.A.units + 64 < cLine) (e : X.K = K := by rfl) : OpR X (compareOp .NotEq) (rNeD K) := e ▸ op_neD hu
theorem lenK (e : X.K = K := by rfl) : CallR X (.builtin "len") (fun xs H Q => ∃ p ys, xs = [.ref p] ∧ (SqL K H p ys ∨ SqT K H p ys) ∧ Q (.int ys.length) H) := e ▸ call_len_seq
theorem sortedK (e : X.K = K := by rfl) : CallR X (.builtin "sorted") (rSortedI K) := e ▸ cr_sortedI
theorem pg_tupK {es : List Expr} {k : Nat} {t : TGs} {n : Nat} {pos : Pos} (hc : X.calm = true) (h : PGs X es t) (e : X.K = K := by rfl)
    (hn : (assignEach es X.env).length = n := by rfl) (hst : (assignEach es X.env).findIdx? (·.1) = none := by rfl) : PG X (.Tuple es k pos) (gTup K n t) := by
  subst e; exact pg_tup hc h hn hst
theorem pe_fldK {e : Expr} {f : Str} {pos : Pos} {ta : TE} (he : PE X e ta) (hb : attributeBase e f X.env (eval e X.env) = eval e X.env) (ek : X.K = K := by rfl) : PE X (.Attribute e f pos) (tFld K ta f) := by
  subst ek; exact pe_fld he hb
theorem pi_tupK {tg l : Expr} {tl : TE} (hl : PE X l tl) (e : X.K = K := by rfl) : PI X tg l (iTup K tl) := by
  subst e; exact pi_tup hl
theorem pi_listK {tg l : Expr} {tl : TE} (hl : PE X l tl) (e : X.K = K := by rfl) : PI X tg l (iList K tl) := by
  subst e; exact pi_list hl
end
end Rz
set_option Elab.async false
set_option linter.all false
set_option maxRecDepth 100000
set_option maxHeartbeats 2000000
/-! Rz9: sorted of tuples of ints of unlike lengths, from a list or from a dict's keys. Own work. -/
namespace RzS
open PySem PySem.Spec PyProof.Rows
section
variable {prog : Program} {w : World} {A : Around} {E : Value → Shared → Prop} {s : Shared}
theorem lex_run {Q : Bool → Shared → Prop} {fin : Bool} : ∀ {us vs : List Value} {ns ms : List Int} (i : Nat), IntsAre us ns → IntsAre vs ms → fin = decide (ns.length < ms.length) → Q (HT.lexLt ns ms) s → PySem.W.KatLex prog w A true fin Q (us.zip vs) i s
  | _, _, _, _, i, .nil, .nil, hf, h => by
    rw [HT.lexLt_nil_nil] at h
    rw [hf]
    exact PySem.W.kat_nil (by simpa using h)
  | _, _, _, _, i, .nil, .cons m t hm, hf, h => by
    rw [HT.lexLt_nil_cons] at h
    rw [hf, List.zip_nil_left]
    exact PySem.W.kat_nil (by simpa using h)
  | _, _, _, _, i, .cons n t hn, .nil, hf, h => by
    rw [HT.lexLt_cons_nil] at h
    rw [hf, List.zip_nil_right]
    exact PySem.W.kat_nil (by simpa using h)
  | _, _, _, _, i, .cons n t (ns := ns) hn, .cons m u (ns := ms) hm, hf, h => by
    rw [HT.lexLt_cons] at h
    rw [List.zip_cons_cons]
    refine PySem.W.kat_cons (SeqAt.EqAt.int_int n t m u prog w _ _ ?_)
    refine PySem.W.kat_go (fun e1 => ?_) (fun e1 => ?_)
    · have ex : n = m := by simpa using e1
      rw [if_pos ex] at h
      refine PySem.W.kat_yes (lex_run (i + 1) hn hm ?_ h)
      rw [hf]; simp
    · have ex : ¬ n = m := by simpa using e1
      rw [if_neg ex] at h
      refine PySem.W.kat_no ?_
      cases hb : (true && i == 0) with
      | true => exact oneLt_int h
      | false => exact PySem.W.kat_one _ _ (PyProof.Rows.lt_int h)
theorem tup_cmp {vs : List Value} {k : Value → List Int} (hp : ∀ v ∈ vs, TS.TupInts s.heap v (k v)) : SrtO.Cmp prog w A s (tuples' true) (fun p => p.1 ∈ vs) (SrtO.lt2 fun v u => HT.lexLt (k v) (k u)) := by
  intro p q hm hm'
  obtain ⟨a, xs, e, ⟨o, ho, hc, n, hd⟩, i⟩ := hp _ hm
  obtain ⟨a', ys, e', ⟨o', ho', hc', n', hd'⟩, i'⟩ := hp _ hm'
  show wpAny (model prog w) A (keyLt' (tuples' true) p.1 q.1) (fun r s' => s' = s ∧ r = HT.lexLt (k p.1) (k q.1)) (fun _ _ => False) s
  rw [e, e'] at *
  refine PySem.W.kat_lt ho hd ho' hd' ?_
  refine lex_run 0 i i' ?_ ⟨rfl, rfl⟩
  have l1 := i.length
  have l2 := i'.length
  rw [Array.length_toList] at l1 l2
  rw [l1, l2]
theorem firsts : ∀ (vs : List Value) {k : Value → List Int}, (∀ v ∈ vs, TS.TupInts s.heap v (k v) ∧ k v ≠ []) → ∃ fs, PySem.W.KatTups s.heap vs fs ∧ fs.length = vs.length ∧ ∀ f, f ∈ fs → ∃ n t, f = Value.int n t
  | [], k, h => ⟨[], trivial, rfl, fun f hf => absurd hf (by simp)⟩
  | v :: vs, k, h => by
    obtain ⟨fs, h1, h2, h3⟩ := firsts vs (k := k) fun u hu => h u (List.mem_cons_of_mem _ hu)
    obtain ⟨⟨a, xs, e, ⟨o, ho, hc, n, hd⟩, i⟩, ne⟩ := h v List.mem_cons_self
    have : ∃ n t r ns, xs.toList = Value.int n t :: r ∧ k v = n :: ns := by
      revert i
      generalize xs.toList = L
      intro i
      generalize hk : k v = N at i ne
      cases i with
      | nil => exact absurd rfl ne
      | cons m t hm => exact ⟨_, _, _, _, rfl, rfl⟩
    obtain ⟨m, t, r, ns, hx, _⟩ := this
    refine ⟨Value.int m t :: fs, ?_, by simp [h2], fun f hf => ?_⟩
    · first
        | exact ⟨⟨a, o, xs, n, e, ho, hc, hd, by rw [← Array.getElem?_toList, hx]; rfl⟩, h1⟩
        | exact ⟨⟨a, o, xs, n, r, e, ho, hc, hd, hx⟩, h1⟩
    · rcases List.mem_cons.mp hf with e | hf
      · exact ⟨m, t, e⟩
      · exact h3 f hf
theorem TI_keep {h h' : Heap} {v : Value} {ns : List Int} (x : TS.TupInts h v ns) (k : ∀ b o, h.get? b = some o → o.cls = .type "tuple" → h'.get? b = some o) : TS.TupInts h' v ns := x.keeps k
theorem tups_sortable {a : Addr} {vs : List Value} {k : Value → List Int} (h0 : 0 < vs.length) (hp : ∀ v ∈ vs, TS.TupInts s.heap v (k v) ∧ k v ≠ []) (ha : ∀ o, s.heap.get? a = some o → o.cls ≠ .type "tuple") : SrtO.SortableO prog w A s a vs fun v u => HT.lexLt (k v) (k u) := by
  intro h' kp
  have hp' : ∀ v ∈ vs, TS.TupInts h' v (k v) ∧ k v ≠ [] := fun v hm => ⟨(hp v hm).1.keeps fun b o e c => kp b o (fun z => by subst z; exact ha o e c) e, (hp v hm).2⟩
  obtain ⟨fs, h1, h2, h3⟩ := firsts (s := { s with heap := h' }) vs hp'
  refine ⟨tuples' true, fun Q E hq => ?_, tup_cmp (s := { s with heap := h' }) fun v hv => (hp' v hv).1⟩
  refine PySem.W.kat_kind (T := .type "int") h1 (by omega) (fun f hm => ?_) (by rfl) hq
  obtain ⟨x, t, rfl⟩ := h3 f hm
  exact PySem.W.Looks.now
/-- sorted of a list of such tuples -/
theorem sorted_tupsL {l : Addr} {vs : List Value} {k : Value → List Int} {Q : Value → Shared → Prop} (hl : s.heap.IsList l vs.toArray) (hz : vs.length ≤ sizeLine) (hp : ∀ v ∈ vs, TS.TupInts s.heap v (k v) ∧ k v ≠ [])
    (h : ∀ (h' : Heap) (d : Addr) (out : List Value), SrtO.Srtd (fun v u => HT.lexLt (k v) (k u)) out → out.Perm vs → (∀ b o, s.heap.get? b = some o → h'.get? b = some o) → s.heap.objs.size ≤ d → (∃ n, h'.get? d = some (seqObj "list" out.toArray n)) → Q (.ref d) { s with heap := h' }) :
    wpAny (model prog w) A (call (.builtin "sorted") [.ref l]) Q E s := by
  refine SrtO.sorted_ord (NtL.swo_lexL k) hl hz (fun h2 h₁ a ha kk => ?_) fun out hs hb => ?_
  · refine tups_sortable (s := { s with heap := h₁ }) (by omega) (fun v hm => ⟨(hp v hm).1.keeps fun b o e _ => (kk b o e).2, (hp v hm).2⟩) fun o e => ?_
    have e2 : some o = some (seqObj "list" vs.toArray 0) := e.symm.trans ha
    cases e2
    intro c
    exact absurd (Value.type.inj c) (by decide)
  · exact h _ _ out hs hb.perm (fun b o e => sortedAll_old e) (Nat.le_succ _) (sortedAll_at s.heap vs out.toArray)
end
end RzS

namespace L2
open PySem PySem.Spec PyProof.Rows
/-- what a tuple of ints at x holds, in H -/
def TupN (H : Hp) (x : V) (ns : List Int) : Prop := ∃ t, x = V.ref t ∧ H t = some (.tup (ns.map V.int))
def rSortedLx (K : PySem.W.Frag) : List V → Hp → VK → Prop := fun vs H Q => ∃ (a : Addr) (xs : List V) (k : V → List Int), vs = [V.ref a] ∧ SqL K H a xs ∧ (∀ x ∈ xs, TupN H x (k x) ∧ k x ≠ []) ∧
  ∀ ys p, ys.Perm xs → ys.Pairwise (fun x y => HT.lexLt (k y) (k x) = false) → H p = none → Q (.ref p) (upd H p (.lst ys))
section
variable {X : Cx}
theorem TupN.ints {pins : List (Addr × Obj)} {σ : St} {H : Hp} {s : Shared} (I : Inv X pins σ H s) {v : Value} {ns : List Int} (h : TupN H (backV v) ns) (hv : ∃ a, v = Value.ref a) : TS.TupInts s.heap v ns := by
  obtain ⟨a, rfl⟩ := hv
  obtain ⟨t, e, ht⟩ := h
  cases e
  obtain ⟨_, its2, r2, o, ho, hc, n, hd⟩ := I.hok _ _ ht
  exact ⟨a, its2.toArray, rfl, ⟨o, ho, hc, n, hd⟩, by simpa using r2.ints⟩
theorem cr_sortedLx (K : PySem.W.Frag) (ek : X.K = K := by rfl) : CallR X (.builtin "sorted") (rSortedLx K) := by
  subst ek
  intro pins s σ H xs us Q I r h
  obtain ⟨a, xs, k, rfl, hs, hx, q⟩ := h
  obtain ⟨its, rv, hl, hz⟩ := I.list hs
  obtain ⟨u, rfl, ru⟩ := vals1 r
  obtain rfl : u = Value.ref a := ru
  obtain ⟨e1, e2⟩ := refs_back rv fun x m => by
    obtain ⟨⟨t, e, _⟩, _⟩ := hx x m
    exact ⟨t, e⟩
  have hzz : its.length ≤ sizeLine := by rw [← rv.length]; exact hz
  refine RzS.sorted_tupsL (k := fun u => k (backV u)) hl.isList hzz (fun v hv => ?_) fun h' d out h1 h2 kp hd hn => ?_
  · have hm : backV v ∈ xs := by rw [e1]; exact List.mem_map.mpr ⟨_, hv, rfl⟩
    exact ⟨TupN.ints I (hx _ hm).1 (e2 v hv), (hx _ hm).2⟩
  · have h3 : ∀ u ∈ out, ∃ a, u = Value.ref a := fun u hu => e2 u (h2.mem_iff.mp hu)
    obtain ⟨n, hn⟩ := hn
    have hp : (out.map backV).Perm xs := by rw [e1]; exact h2.map backV
    have hlo : (out.map backV).length ≤ sizeLine := by rw [hp.length_eq]; exact hz
    exact ⟨.ref d, upd H d (.lst (out.map backV)), I.laid (t' := s.toks) kp hd ⟨hlo, out, n, vals_back h3, hn⟩, rfl, q _ d hp (List.pairwise_map.mpr h1) (I.hok.fresh hd)⟩
/-- sorted of a dict whose keys are tuples of ints -/
def rSortedDT : List V → Hp → VK → Prop := fun vs H Q => ∃ (d : Addr) (kvs : List (List Key × V)) (nss : List (List Int)), vs = [V.ref d] ∧ Rd H d (.dT kvs) ∧ kvs.map (·.1) = nss.map (·.map Sum.inl) ∧ (∀ ns ∈ nss, ns ≠ []) ∧
  ∀ (ys : List V) (ms : List (List Int)) p, ms.Perm nss → ms.Pairwise (fun x y => HT.lexLt y x = false) → Paired (fun ns y => TupN H y ns) ms ys → H p = none → Q (.ref p) (upd H p (.lst ys))
theorem keyN (ns : List Int) : (ns.map Sum.inl : List Key).map kV = ns.map V.int := by rw [List.map_map]; rfl
theorem paired_mapN {H : Hp} {k : V → List Int} : ∀ (ys : List V), (∀ y ∈ ys, TupN H y (k y)) → Paired (fun ns y => TupN H y ns) (ys.map k) ys
  | [], _ => .nil
  | y :: ys, h => .cons (h y List.mem_cons_self) (paired_mapN ys fun z hz => h z (List.mem_cons_of_mem _ hz))
theorem cr_sortedDT (hc : X.calm = true) : CallR X (.builtin "sorted") rSortedDT := by
  intro pins s σ H xs us Q I r h
  obtain ⟨d, kvs, nss, rfl, hd, hk, ne, q⟩ := h
  obtain ⟨u, rfl, rx⟩ := r.one
  cases rx
  obtain ⟨z, hs, ks, pr, o, es, ep, ho, hx, hdt, he, hn⟩ := (show ObjOk X.prog X.w H s.heap d (.dT kvs) from hd.ok I.hok)
  have l1 : es.size = ks.length := size_of_entries he
  have l2 : kvs.length = ks.length := Paired.length pr
  -- the numbers at a key's address
  let k : V → List Int := fun x => match x with
    | .ref t => match H t with
      | some (.tup vs) => vs.map fun v => match v with
        | .int i => i
        | _ => 0
      | _ => []
    | _ => []
  have kN : ∀ {x : V} {ns : List Int}, TupN H x ns → k x = ns := fun {x ns} h => by
    obtain ⟨t, rfl, ht⟩ := h
    show (match H t with
      | some (.tup vs) => vs.map fun v => match v with
        | .int i => i
        | _ => 0
      | _ => []) = ns
    rw [ht]
    show (ns.map V.int).map _ = ns
    rw [List.map_map]
    exact (List.map_congr_left fun _ _ => rfl).trans (List.map_id ns)
  have key : ∀ {l : List (List Key × V)} {m : List (List Key × Addr × Value)} {nss : List (List Int)}, KT H l m → l.map (·.1) = nss.map (·.map Sum.inl) → (m.map fun x => V.ref x.2.1).map k = nss ∧ ∀ x ∈ m, ∃ ns ∈ nss, TupN H (V.ref x.2.1) ns := by
    intro l m nss h
    induction h generalizing nss with
    | nil => intro e; cases nss with
      | nil => exact ⟨rfl, fun _ h => nomatch h⟩
      | cons _ _ => cases e
    | @cons p q ps qs hq t ih =>
      intro e
      cases nss with
      | nil => cases e
      | cons ns nss =>
        rw [List.map_cons, List.map_cons] at e
        injection e with e1 e2
        obtain ⟨i1, i2⟩ := ih e2
        have tn : TupN H (V.ref q.2.1) ns := ⟨q.2.1, rfl, by rw [hq.2.1, e1, keyN]⟩
        refine ⟨by rw [List.map_cons, List.map_cons, i1, kN tn], fun x hx => ?_⟩
        rcases List.mem_cons.mp hx with rfl | hx
        · exact ⟨ns, List.mem_cons_self, tn⟩
        · obtain ⟨ms, h1, h2⟩ := i2 x hx
          exact ⟨ms, List.mem_cons_of_mem _ h1, h2⟩
  obtain ⟨kk, kt⟩ := key pr hk
  refine Calls.call_function_entry PyProof.Rows.kind_sorted PyProof.Rows.plain_sorted PyProof.Rows.entry_sorted (PyProof.Rows.args_sorted1 _) ?_
  unfold Builtin.«sorted»
  refine wpAny_bind (m := checkCount "sorted" 1 1 _) (wpAny_pure ?_)
  refine wpAny_bind (PySem.W.kdu_collect (A := X.A.in1) (kdl_raw hs hx hdt) (I.ok.hd hc) ho (by omega) fun h1 tk acc kp it => ?_)
  have ea : acc.toList = ks.map fun x => Value.ref x.2.1 := by
    have hl : acc.toList.length = ks.length := by rw [Array.length_toList, it.1]; exact l1
    apply List.ext_getElem?
    intro j
    rw [List.getElem?_map]
    cases hj : acc.toList[j]? with
    | none => rw [List.getElem?_eq_none (by have := List.getElem?_eq_none_iff.mp hj; omega)]; rfl
    | some v =>
      obtain ⟨en, hen, hv⟩ := it.2 j v (by rw [← Array.getElem?_toList]; exact hj)
      have qe := entry_at he j
      rw [hen] at qe
      cases hb : ks[j]? with
      | none => rw [hb] at qe; cases qe
      | some b =>
        rw [hb] at qe
        have e2 : en = entryOfKey (tupleKind (mixKind X.prog X.w)) b := Option.some.inj qe
        rw [hv, e2]; rfl
  generalize acc.toList = vs0 at ea
  have hlen : vs0.length = ks.length := by rw [ea, List.length_map]
  have I1 : Inv X pins σ H { s with heap := h1, toks := tk } := I.kept kp
  have hz0 : vs0.length ≤ sizeLine := by omega
  refine wpAny_bind (wpAny_newList ?_ hz0)
  have hoL : (h1.push (seqObj "list" vs0.toArray 0)).get? h1.objs.size = some (seqObj "list" vs0.toArray 0) := Heap.get?_push_size _ rfl
  show wpAny _ _ _ _ _ { s with heap := h1.push (seqObj "list" vs0.toArray 0), toks := tk }
  have hv : ∀ v ∈ vs0, TS.TupInts h1 v (k (backV v)) ∧ k (backV v) ≠ [] := fun v hv => by
    rw [ea] at hv
    obtain ⟨x, hx1, rfl⟩ := List.mem_map.mp hv
    obtain ⟨ns, h1, h2⟩ := kt x hx1
    have e : k (backV (Value.ref x.2.1)) = ns := kN h2
    rw [e]
    exact ⟨TupN.ints I1 (v := Value.ref x.2.1) h2 ⟨_, rfl⟩, ne ns h1⟩
  refine wpAny_bind (wpAny_holding (wpAny_call_entry PyProof.Rows.slot_list_sort ⟨_, hoL, rfl⟩ PyProof.Rows.entry_list_sort
    (SrtO.list_sort_ord (s := { s with heap := h1.push (seqObj "list" vs0.toArray 0), toks := tk }) (NtL.swo_lexL fun u => k (backV u)) hoL hz0 (fun h2 => ?_) fun out hs hb => ⟨_, rfl, ?_⟩) (PyProof.Rows.args_list_sort _)))
  · refine RzS.tups_sortable (s := { s with heap := h1.push (seqObj "list" vs0.toArray 0), toks := tk }) (by omega) (fun v hm => ⟨(hv v hm).1.keeps fun b o e _ => Heap.get?_push_of_some _ e, (hv v hm).2⟩) fun o e => ?_
    have e2 : some o = some (seqObj "list" vs0.toArray 0) := e.symm.trans hoL
    cases e2
    intro c
    exact absurd (Value.type.inj c) (by decide)
  · obtain ⟨e', he'⟩ := PyProof.Rows.sortedHeap_at (vs := vs0) (out := out.toArray) hoL
    have pm := hb.perm
    have h3 : ∀ u ∈ out, ∃ a, u = Value.ref a := fun u hu => by
      have := pm.mem_iff.mp hu
      rw [ea] at this
      obtain ⟨x, _, rfl⟩ := List.mem_map.mp this
      exact ⟨_, rfl⟩
    have hp : (out.map backV).Perm (ks.map fun x => V.ref x.2.1) := by
      have := pm.map backV
      rw [ea, List.map_map] at this
      exact this
    have hlo : (out.map backV).length ≤ sizeLine := by rw [hp.length_eq, List.length_map]; omega
    refine wpAny_pure ⟨_, rfl, .ref h1.objs.size, upd H h1.objs.size (.lst (out.map backV)), I1.laid (t' := tk) (fun b u e => ?_) (Nat.le_refl _)
      (show ObjOk X.prog X.w _ _ _ (.lst (out.map backV)) from ⟨hlo, out, e', vals_back h3, he'⟩), rfl, q _ ((out.map backV).map k) _ ?_ ?_ ?_ (I1.hok.fresh (Nat.le_refl _))⟩
    · have hb2 : b < h1.objs.size := Heap.lt_size e
      rw [PyProof.Rows.sortedHeap_old (Nat.ne_of_lt hb2) (by rw [size_push']; exact Nat.lt_succ_of_lt hb2)]
      exact Heap.get?_push_of_some _ e
    · have := hp.map k
      rw [kk] at this
      exact this
    · rw [List.map_map]
      exact List.pairwise_map.mpr hs
    · refine paired_mapN _ fun y hy => ?_
      have := hp.mem_iff.mp hy
      obtain ⟨x, hx1, rfl⟩ := List.mem_map.mp this
      obtain ⟨ns, _, h2⟩ := kt x hx1
      rw [kN h2]; exact h2
end
end L2
set_option Elab.async false
set_option linter.all false
set_option maxRecDepth 100000
set_option maxHeartbeats 4000000
/-! Rz10: enumerate of a tuple, set of a tuple of ints, dict of pairs with tuple keys. Own work. -/
namespace L2
open PySem PySem.Spec PyProof.Rows

/-! ### enumerate(t), t a tuple -/
open AutoSeq1 (wpAny_loadPart') in
theorem meets_enum_tup (l : Addr) (items : Array Value) (n : Nat) (dct : Option Addr) (sl : Array (Option Value)) :
    Meets (Builtin.«enumerate.__new__» ⟨[.type "enumerate", .ref l], []⟩) (fun _ R s => s.heap.get? l = some { cls := .type "tuple", dict := dct, data := .seq items n, slots := sl } ∧
      R (.ok (.ret (.ref (s.heap.push { cls := .type "tuple_iterator", data := .fields #[.ref l, .int 0 0] }).objs.size)))
        { s with heap := (s.heap.push { cls := .type "tuple_iterator", data := .fields #[.ref l, .int 0 0] }).push { cls := .type "enumerate", data := .fields #[.none, .bool false, .ref s.heap.objs.size, rawInt 0, .none, .none] } }) :=
  .of_wp fun prog w A R s h => by
    obtain ⟨hp, g, d, tk, os⟩ := s; obtain ⟨hl, h⟩ := h
    have hsub := sub_enumerate
    have hT : Heap.IsTuple (Shared.heap ⟨hp, g, d, tk, os⟩) l items := ⟨_, hl, rfl, n, rfl⟩
    wp_walk using wpAny_loadPart' hl
    refine wpAny_stack_any fun st => wpAny_pure ?_
    split
    · rename_i c _ _ _ _ _
      cases (c == Value.type "enumerate")
      · wp_walk using wpAny_loadPart' hl, wpAny_pyIter_tuple hT
        exact ⟨_, rfl, h⟩
      · wp_walk using wpAny_loadPart' hl, wpAny_pyIter_tuple hT
        exact ⟨_, rfl, h⟩
    · wp_walk using wpAny_loadPart' hl, wpAny_pyIter_tuple hT
      exact ⟨_, rfl, h⟩
section
variable {prog : Program} {w : World} {A : Around} {E : Value → Shared → Prop} {s : Shared}
theorem call_enum_tup {l : Addr} {items : Array Value} {Q : Value → Shared → Prop} (hT : s.heap.IsTuple l items) (h0 : ∃ o, s.heap.get? l = some o)
    (h : ∀ h', IsEnum h' (s.heap.objs.size + 1) s.heap.objs.size 0 .none → h'.IsTupleIter s.heap.objs.size l 0 → (∀ b o, s.heap.get? b = some o → h'.get? b = some o) → Q (.ref (s.heap.objs.size + 1)) { s with heap := h' }) :
    wpAny (model prog w) A (call (.type "enumerate") [.ref l]) Q E s := by
  obtain ⟨⟨c, dct, dt, sl⟩, hl, hc, n, hd⟩ := hT
  have hc : c = .type "tuple" := hc
  have hd : dt = .seq items n := hd
  subst hc hd
  let hp1 := s.heap.push { cls := .type "tuple_iterator", data := .fields #[.ref l, .int 0 0] }
  have hz : hp1.objs.size = s.heap.objs.size + 1 := Heap.size_push ..
  refine callType_new F.called_enumerate (by decide) (F.typeCall_enumerate_1 _) (F.newCall_enumerate_1 _) (fun obj => F.args_object_init_2 obj _) F.entry_enumerate_new (meets_enum_tup l items n dct sl) ⟨hl, ?_⟩
  show _ ∧ _
  have he : IsEnum (hp1.push { cls := .type "enumerate", data := .fields #[.none, .bool false, .ref s.heap.objs.size, rawInt 0, .none, .none] }) (s.heap.objs.size + 1) s.heap.objs.size 0 .none := by
    have q := Heap.get?_push_size hp1 (o := { cls := .type "enumerate", data := .fields #[.none, .bool false, .ref s.heap.objs.size, rawInt 0, .none, .none] }) rfl
    rw [hz] at q; exact q
  rw [hz]
  exact ⟨⟨_, he, rfl⟩, h _ he ⟨_, Heap.get?_push_of_some _ (Heap.get?_push_size _ rfl), rfl, rfl⟩ fun b o x => Heap.get?_push_of_some _ (Heap.get?_push_of_some _ x)⟩
end
section
variable {prog : Program} {w : World} {A : Around} {E : Value → Shared → Prop} {s : Shared}
theorem enumT_end {e it t : Addr} {j : Int} {i : Nat} {items : Array Value} {old : Value} {Q : Option Value → Shared → Prop} (hh : A.handled = none) (he : IsEnum s.heap e it j old) (hit : s.heap.IsTupleIter it t i) (ht : s.heap.IsTuple t items) (hx : items[i]? = none)
    (hQ : ∀ h1, Heap.ExtBut it s.heap h1 → Q none { s with heap := h1 }) : wpAny (model prog w) A (pyNext (.ref e)) Q E s := by
  have tp : s.TypeIs (.ref e) "enumerate" := ⟨_, he, rfl⟩
  unfold pyNext
  refine wpAny_bind (wpAny_attempt (wpAny_callSpecial?_slot (name := Str.ofString "__next__") tp F.slot_enumerate_next (wpAny_call_entry F.slot_enumerate_next tp F.entry_enumerate_next ?_ (F.args_enumerate_next_1 _))))
  show wpAny _ _ (field (.ref e) 2 >>= _) _ _ _
  refine wpAny_bind (wpAny_field he rfl (x := .ref it) rfl (wpAny_bind (wpAny_nextOf_tuple_end hh hit ht hx fun h1 x eb xs => ?_)))
  obtain ⟨o, ho, hc⟩ := xs
  exact wpAny_bind (wpAny_isInstance (T := "StopIteration") (b := true) ⟨o, ho, hc⟩ isSubtype_stop (wpAny_pure (hQ _ eb)))
end
/-- the tuple at a as it stands at each turn, each item in a new pair -/
def IteT (K : PySem.W.Frag) (a : Addr) : It :=
  ⟨fun i H => ∃ (xs : List V) (x : V), SqT K H a xs ∧ xs[i]? = some x, fun i H v H' => ∃ T x, v = .ref T ∧ H T = none ∧ H' = upd H T (.tup [.int (i : Nat), x]) ∧ ∀ xs, SqT K H a xs → xs[i]? = some x, fun i H => ∃ xs : List V, SqT K H a xs ∧ xs.length ≤ i⟩
theorem turn_enumT {P : Program} {w : World} {K : PySem.W.Frag} {elts : List Expr} {kk : Nat} {tpos : Pos} (a e it : Addr) (hat : a ≠ it) :
    Turn P w K (.Tuple elts kk tpos) (IteT K a) [e, it] e (fun i h => (∃ old, IsEnum h e it ((i : Nat) : Int) old) ∧ h.IsTupleIter it a i ∧ e ≠ it) where
  mem := by simp
  obj := fun i h st b hb => by
    obtain ⟨⟨old, he⟩, ⟨o, ho, _, hd⟩, _⟩ := st
    rcases (by simpa using hb : b = e ∨ b = it) with z | z
    · subst z; exact ⟨_, he, fun v q => nomatch q⟩
    · subst z; exact ⟨o, ho, fun v q => by rw [hd] at q; cases q⟩
  keep := fun i h h' st k => ⟨st.1.imp fun old he => k e (by simp) _ he, st.2.1.at fun o q => k it (by simp) o q, st.2.2⟩
  item := by
    intro X hP hw hK hc i pins s σ H E I hf st hg
    subst hP hw hK
    obtain ⟨⟨old, he⟩, hit, hne⟩ := st
    obtain ⟨xs, x, hq, hx⟩ := hg
    obtain ⟨its, rv, p, hz⟩ := I.tuple hq
    obtain ⟨u, hu, ru⟩ := rv.get hx
    have hel : e < s.heap.objs.size := Heap.lt_size he
    have hil : it < s.heap.objs.size := by obtain ⟨_, q, _⟩ := hit; exact Heap.lt_size q
    have hlen : i < its.toArray.size := by
      have := (List.getElem?_eq_some_iff.mp hu).1
      simpa using this
    have hal : e ≠ a := fun z => by
      obtain ⟨o, ho, hcl, _⟩ := p
      subst z
      have h2 := he.symm.trans ho
      cases h2
      exact absurd (Value.type.inj hcl) (by decide)
    have D := Draws.tuple (prog := X.prog) (w := X.w) (A := X.A.in1) (I.ok.hd hc) it a hat its.toArray
    refine wpAny_pyNext_enum_itemD D he ⟨hit, p⟩ hlen hne (by simp [hne, hal]) fun x1 h1 tk hx1 ho st1 hT hsz hk => ?_
    obtain ⟨hit1, _⟩ := st1
    have ex : x1 = u := by
      have : its[i]? = some x1 := by simpa using hx1
      rw [hu] at this; exact (Option.some.inj this).symm
    subst ex
    refine ⟨_, rfl, wpAny_letOwnedTupleGo_enum (s := { s with heap := h1, toks := tk + 1 }) ho fun h2 he2 sb => ?_⟩
    have hT2 : h2.get? s.heap.objs.size = some { cls := .type "tuple", data := .seq #[.int i tk, x1] } := (sb.2 _ (Nat.ne_of_gt hel)).trans hT
    have new : ObjOk X.prog X.w (upd H s.heap.objs.size (.tup [.int (i : Nat), x])) h2 s.heap.objs.size (.tup [.int (i : Nat), x]) :=
      ⟨by show 2 ≤ sizeLine; decide, [.int i tk, x1], .cons ⟨_, rfl⟩ (.cons ru .nil), ⟨_, hT2, rfl, _, rfl⟩⟩
    have I1 : Inv X pins σ (upd H s.heap.objs.size (.tup [.int (i : Nat), x])) { s with heap := h2, toks := tk + 1 } :=
      I.turnedNew (ch := [e, it]) (fun b ob hb q => (sb.2 b (fun z => hb (by simp [z]))).trans (hk b ob (fun z => hb (by simp [z])) (fun z => hb (by simp [z])) q)) hf (Nat.le_refl _) new
    refine ⟨.ref s.heap.objs.size, _, I1, rfl, ⟨_, x, rfl, I.hok.fresh (Nat.le_refl _), rfl, fun ys hy => ?_⟩, ⟨⟨x1, ?_⟩, hit1.at fun o q => (sb.2 it (Ne.symm hne)).trans q, hne⟩, fun b hb => ?_⟩
    · obtain ⟨its2, rv2, p2, _⟩ := I.tuple hy
      have : ys = xs := I.tuple_inj hy hq
      rw [this]; exact hx
    · rw [show ((i + 1 : Nat) : Int) = (i : Int) + 1 by omega]; exact he2
    · have hb2 : b < s.heap.objs.size := by
        rcases (by simpa using hb : b = e ∨ b = it) with z | z
        · rw [z]; exact hel
        · rw [z]; exact hil
      rw [upd_ne (Nat.ne_of_lt hb2)]
      exact (hf b hb).1
  done := by
    intro X hP hw hK hc i pins s σ H E I hf st hg
    subst hP hw hK
    obtain ⟨⟨old, he⟩, hit, hne⟩ := st
    obtain ⟨xs, hq, hx⟩ := hg
    obtain ⟨its, rv, p, hz⟩ := I.tuple hq
    obtain ⟨f0, f1, f2, f3, f4, f5⟩ := hf it (by simp)
    have hl := rv.length
    exact enumT_end (I.ok.hd hc) he hit p (Array.getElem?_eq_none (by simp; omega)) fun h1 eb => ⟨rfl, I.turned (t' := s.toks) (fun b o hb q => eb b o hb q) f0 f1 f3 f4 f5⟩
  self := fun A i s Q E st h => let ⟨⟨_, he⟩, _⟩ := st; wpAny_pyIter_enum he h
def iEnumT (K : PySem.W.Frag) (ta : TA) : TI := fun σ H R => ta σ H fun vs H1 => ∃ a xs, vs = [.ref a] ∧ SqT K H1 a xs ∧ R (IteT K a) H1
theorem pi_enumT {X : Cx} (K : PySem.W.Frag) {e : Expr} {ta : TA} {p pos tpos : Pos} {elts : List Expr} {kk : Nat} (hg : Gl X "enumerate") (hm : X.mg "enumerate" = none) (ha : PA X [e] ta) (hK : X.K = K := by rfl) (hs : starEach [e] X.env = [(false, eval e X.env)] := by rfl) :
    PI X (.Tuple elts kk tpos) (.Call (.Name "enumerate" p) [e] [] pos) (iEnumT K ta) := by
  subst hK
  refine ⟨fun pins s σ H R I h => ?_⟩
  refine Call_ (ld_blt I hg hm boot_enumerate (PyProof.Rows.callWith_type1 (thn (ha.run pos pins s σ H _ I h) fun us s1 ⟨vs, H1, I1, r1, q1⟩ => ?_) hs rfl))
  obtain ⟨a, xs, ex, hq, q⟩ := q1
  subst ex
  cases r1 with
  | cons r rr =>
    cases rr
    cases r
    obtain ⟨its, rv, pt, hz⟩ := I1.tuple hq
    have hlt : a < s1.heap.objs.size := by obtain ⟨o, ho, _⟩ := pt; exact Heap.lt_size ho
    refine call_enum_tup pt (by obtain ⟨o, ho, _⟩ := pt; exact ⟨o, ho⟩) fun h1 he hit hk => wpAny_pyIter_enum he ?_
    refine ⟨s1.heap.objs.size + 1, [s1.heap.objs.size + 1, s1.heap.objs.size], _, _, H1, rfl, I1.kept (t' := s1.toks) hk, turn_enumT a (s1.heap.objs.size + 1) s1.heap.objs.size (Nat.ne_of_lt hlt), ⟨⟨.none, he⟩, hit, Nat.succ_ne_self _⟩, fun b hb => ?_, q⟩
    have hle : s1.heap.objs.size ≤ b := by
      rcases (by simpa using hb : b = s1.heap.objs.size + 1 ∨ b = s1.heap.objs.size) with z | z
      · rw [z]; exact Nat.le_succ _
      · rw [z]; exact Nat.le_refl _
    exact I1.fpOk hle (I1.hok.fresh hle)

/-! ### set(t), t a tuple of ints -/
def rSetTI (K : PySem.W.Frag) (w : World) : List V → Hp → VK → Prop := fun vs H Q => ∃ (a : Addr) (ns : List Int), vs = [V.ref a] ∧ SqT K H a (ns.map V.int) ∧ ns.length ≤ 60 ∧ ∀ (p : Addr) (c : Nat), c ≤ ns.length → H p = none → Q (.ref p) (upd H p (SetO w p (fun j => decide (j ∈ ns)) c))
theorem cr_setTI {X : Cx} (hc : X.calm = true) : CallR X (.type "set") (rSetTI X.K X.w) := by
  intro pins s σ H xs us Q I r h
  obtain ⟨a, ns, rfl, hs, hl, q⟩ := h
  obtain ⟨its, rv, pt, hz⟩ := I.tuple hs
  rw [Vals.ref1 r]
  refine call_set_tupI (P := X.prog) (w := X.w) ns (I.ok.hd hc) pt (by simpa using ints_of_vals rv) (by unfold scanBound; omega) fun h1 tk c R hcn k => ?_
  exact ⟨.ref s.heap.objs.size, upd H s.heap.objs.size (SetO X.w s.heap.objs.size (fun j => decide (j ∈ ns)) c), I.laid (t' := tk) k (Nat.le_refl _) (setO_new R), rfl, q _ c hcn (I.hok.fresh (Nat.le_refl _))⟩

/-! ### dict(xs), xs pairs whose firsts are tuples -/
def putAll {α : Type} [DecidableEq α] (l : List (α × V)) (es : List (α × V)) : List (α × V) := es.foldl (fun acc e => putK acc e.1 e.2) l
def rDictPT (K : PySem.W.Frag) : List V → Hp → VK → Prop := fun vs H Q => ∃ (a : Addr) (ps : List Addr) (es : List (List Key × Addr × V)), vs = [V.ref a] ∧ SqL K H a (ps.map V.ref) ∧
  Paired (fun p e => SqT K H p [.ref e.2.1, e.2.2] ∧ H e.2.1 = some (.tup (e.1.map kV))) ps es ∧ ∀ p, H p = none → Q (.ref p) (upd H p (.dT (putAll [] (es.map fun e => (e.1, e.2.2)))))
theorem pairsT_of {X : Cx} {pins : List (Addr × Obj)} {σ : St} {H : Hp} {s : Shared} (I : Inv X pins σ H s) : ∀ {ps : List Addr} {es : List (List Key × Addr × V)}, Paired (fun p e => SqT X.K H p [.ref e.2.1, e.2.2] ∧ H e.2.1 = some (.tup (e.1.map kV))) ps es →
    ∃ prs : List (List Key × Addr × Value), Paired (fun e q => e.1 = q.1 ∧ e.2.1 = q.2.1 ∧ H q.2.1 = some (.tup (q.1.map kV)) ∧ RelV e.2.2 q.2.2) es prs ∧ prs.length = ps.length ∧ ∀ (j : Nat) (q : List Key × Addr × Value), prs[j]? = some q → ∃ b : Addr, ps[j]? = some b ∧ IsTup s.heap b #[.ref q.2.1, q.2.2]
  | _, _, .nil => ⟨[], .nil, rfl, fun j q e => by simp at e⟩
  | _, _, .cons (a := p) (b := e) h t => by
    obtain ⟨prs, r, hl, hp⟩ := pairsT_of I t
    obtain ⟨its, rv, ht, _⟩ := I.tuple h.1
    obtain ⟨u, y, ei, ru, ry⟩ := vals2 rv
    subst ei
    have eu : u = Value.ref e.2.1 := ru
    subst eu
    refine ⟨(e.1, e.2.1, y) :: prs, .cons ⟨rfl, rfl, h.2, ry⟩ r, by rw [List.length_cons, List.length_cons, hl], fun j q z => ?_⟩
    cases j with
    | zero =>
      have z : (e.1, e.2.1, y) = q := Option.some.inj z
      subst z
      exact ⟨p, rfl, ht⟩
    | succ j =>
      obtain ⟨b, e1, e2⟩ := hp j q (by simpa using z)
      exact ⟨b, by simpa using e1, e2⟩
theorem KT_all {H : Hp} : ∀ {es : List (List Key × Addr × V)} {prs : List (List Key × Addr × Value)} {l : List (List Key × V)} {xs : List (List Key × Addr × Value)},
    Paired (fun e q => e.1 = q.1 ∧ e.2.1 = q.2.1 ∧ H q.2.1 = some (.tup (q.1.map kV)) ∧ RelV e.2.2 q.2.2) es prs → KT H l xs → KT H (putAll l (es.map fun e => (e.1, e.2.2))) (storedAllH xs prs)
  | _, _, _, _, .nil, r => r
  | _, _, _, _, .cons (a := e) (b := q) h t, r => by
    refine KT_all (l := putK _ e.1 e.2.2) (xs := storedH _ q.1 q.2.1 q.2.2) t ?_
    obtain ⟨h1, _, h3, h4⟩ := h
    rw [h1]
    exact r.put q.1 h3 h4
theorem cr_dictPT {X : Cx} (hc : X.calm = true) (hu : X.A.units + 64 < cLine) : CallR X (.type "dict") (rDictPT X.K) := by
  intro pins s σ H xs us Q I r h
  obtain ⟨a, ps, es, rfl, hs, hp, q⟩ := h
  obtain ⟨its, rv, pl, hz⟩ := I.list hs
  rw [Vals.ref1 r]
  have ei := refs_at rv
  subst ei
  rw [List.length_map] at hz
  obtain ⟨prs, rel, hl, hpr⟩ := pairsT_of I hp
  obtain ⟨o, n, ho, hcl, hd, hdat⟩ := pl
  let vps : List (Value × Value) := prs.map fun q => (Value.ref q.2.1, q.2.2)
  let Ts : Nat → Addr := fun j => ps.getD j 0
  have hvl : vps.length = ps.length := by rw [List.length_map]; exact hl
  have pit : PairItems s.heap (ps.map Value.ref).toArray Ts vps := by
    refine ⟨by simp [hvl], fun j k v hj => ?_⟩
    rw [List.getElem?_map] at hj
    cases hq : prs[j]? with
    | none => rw [hq] at hj; cases hj
    | some q =>
      rw [hq] at hj
      cases hj
      obtain ⟨b, e1, e2⟩ := hpr j q hq
      have et : Ts j = b := by show ps.getD j 0 = b; simp [List.getD, e1]
      refine ⟨by simp [e1, et], .inl ?_⟩
      rw [et]
      obtain ⟨oo, h1, h2, nn, h3⟩ := e2
      exact ⟨oo, h1, h2, nn, h3⟩
  have hkt := KT_all rel (l := []) (xs := []) .nil
  refine call_dict_pairsH (knd := tupleKind (mixKind X.prog X.w)) (ps := prs) (PairArg.list a (ps.map Value.ref).toArray Ts vps) (I.ok.hd hc) ?_ ⟨⟨o, n, ho, hcl, hd, hdat⟩, pit⟩ ⟨by rw [hvl, hl], fun i key v e => ?_⟩ ?_ (by rw [hvl]; exact hz) fun h1 tk hd1 k => ?_
  · exact tupleKind_room_in1 (A := X.A.in1) (show X.A.units + 1 + 1 < cLine by omega)
  · have e : (prs.map fun q => (Value.ref q.2.1, q.2.2))[i]? = some (key, v) := e
    rw [List.getElem?_map] at e
    cases hq : prs[i]? with
    | none => rw [hq] at e; cases e
    | some q => rw [hq] at e; cases e; exact ⟨q.1, q.2.1, rfl, rfl⟩
  · intro h2 hk x hx
    have kk : ∀ {es : List (List Key × Addr × V)} {prs : List (List Key × Addr × Value)}, Paired (fun e q => e.1 = q.1 ∧ e.2.1 = q.2.1 ∧ H q.2.1 = some (.tup (q.1.map kV)) ∧ RelV e.2.2 q.2.2) es prs → ∀ x ∈ prs, H x.2.1 = some (.tup (x.1.map kV)) := by
      intro es prs r
      induction r with
      | nil => exact fun _ h => nomatch h
      | cons h t ih =>
        intro x hx
        rcases List.mem_cons.mp hx with rfl | hx
        · exact h.2.2.1
        · exact ih x hx
    obtain ⟨o, ar, n, h1, h2, h3, h4⟩ := key_of (P := X.prog) (w := X.w) I.hok (kk rel x hx)
    exact ⟨o, ar, n, hk _ o (Nat.ne_of_lt (Heap.lt_size h1)) (by simp) h1, h2, h3, h4⟩
  · have hm : (s.heap.objs.size == sysModules) = false := beq_eq_false_iff_ne.mpr (Nat.ne_of_gt I.big)
    have hlen : (putAll [] (es.map fun e => (e.1, e.2.2))).length ≤ sizeLine := by
      rw [Paired.length hkt]
      refine Nat.le_trans (storedAllH_length prs []) ?_
      rw [List.length_nil, Nat.zero_add, hl]; exact hz
    obtain ⟨o1, es1, ep1, g1, g2, g3, g4, _, g6⟩ := hd1
    refine ⟨.ref s.heap.objs.size, upd H s.heap.objs.size (.dT (putAll [] (es.map fun e => (e.1, e.2.2)))), I.laid (t' := tk) (fun b o e => k b o (by simp) e) (Nat.le_refl _) ⟨hlen, hm, _, hkt.keeps fun c ys ec => ?_, o1, es1, ep1, g1, g2, g3, g4, g6⟩, rfl, q _ (I.hok.fresh (Nat.le_refl _))⟩
    rw [upd_ne (ne_of_none ec (I.hok.fresh (Nat.le_refl _)))]
    exact ec
end L2
set_option Elab.async false
set_option linter.all false
set_option maxRecDepth 100000
set_option maxHeartbeats 4000000
/-! Rz11: {k: v for x in xs}, the keys tuples. The road is that of HandS.DictComp (dc_core), with a dict of tuple keys in the place of one of plain keys, and without tests. -/
namespace L2
open PySem PySem.Spec PyProof.Rows
section
variable {X : Cx} {pn : List (Addr × Obj)} {σ : St} {H : Hp} {s : Shared} {A : Around} {E : Value → Shared → Prop} {a b : Addr} {l : List (List Key × V)} {k : List Key} {v : V} {r : Value}
theorem dictSetT {Q : Unit → Shared → Prop} (hu : X.A.units + 1 < cLine) (I : Inv X pn σ H s) (ha : H a = some (.dT l)) (hb : H b = some (.tup (k.map kV))) (hz : l.length < sizeLine) (rv : RelV v r) (h : ∀ s1, Inv X pn σ (upd H a (.dT (putK l k v))) s1 → Q () s1) :
    wpAny (model X.prog X.w) X.A (dictSet a (.ref b) r) Q E s := by
  obtain ⟨_, hd, xs, rel, dd⟩ := dt_of I.hok ha
  have lz : xs.length ≤ sizeLine := by rw [← Paired.length rel]; omega
  have lp := length_putK l k v
  refine wpAny_dictSet_heap (hsz := lz) (show (tupleKind (mixKind X.prog X.w)).room X.A from (by show X.A.units < cLine; omega)) (key_of I.hok hb) dd fun h1 d1 hs => h _ ?_
  obtain ⟨o, es, ep, g1, g2, g3, g4, _, g6⟩ := d1
  refine d_write I (by rw [ha]; trivial) hs ⟨o, g1⟩ ⟨by omega, hd, _, (rel.put k hb rv).keeps fun c ys ec => ?_, o, es, ep, g1, g2, g3, g4, g6⟩
  rw [upd_ne (ne_of ec ha (fun z => nomatch z))]; exact ec
end
section
variable {X : Cx}
/-- what is asked of {k: v for x in xs}, the dict a new one with tuple keys -/
def tDcT (wi : TI) (g : TG) (tk tv : TE) (vs : List Nat) : TE := fun σ H Q => wi σ H fun J H1 => ∀ D, H1 D = none → ∃ W : Nat → Nat → Hp → Prop, (∃ m, W 0 m (upd H1 D (.dT []))) ∧ ∀ i m H, W i m H →
  (J.stop i H ∧ Q (.ref D) H) ∨ (J.go i H ∧ ∃ Nx : Hp → Prop, (∀ H', Nx H' → ∃ m', m' < m ∧ W (i + 1) m' H') ∧ ∀ x H', J.yld i H x H' → g x (wipe σ vs) H' fun σ2 H2 => wipe σ2 vs = wipe σ vs ∧
    tk σ2 H2 fun y H4 => tv σ2 H4 fun z H5 => ∃ l k b, y = .ref b ∧ H5 b = some (.tup (k.map kV)) ∧ H5 D = some (.dT l) ∧ l.length < sizeLine ∧ Nx (upd H5 D (.dT (putK l k z))))
theorem pe_dcT {kx vx tg iter : Expr} {scope : Scope} {own : List (Str × Nat)} {pos : Pos} {wi : TI} {g : TG} {tk tv : TE} (hu : X.A.units + 1 < cLine) (hc : X.calm = true) (hN : X.N.Nodup) (hi : PI X tg iter wi) (ok : BlkOk X.N X.env.scope scope own)
    (hg : ∀ s H C cl fp, PG (X.blk s H scope (compEnvC scope cl C X.env) fp) tg g) (hk : ∀ s H C cl fp, PE (X.blk s H scope (compEnvC scope cl C X.env) fp) kx tk) (hv : ∀ s H C cl fp, PE (X.blk s H scope (compEnvC scope cl C X.env) fp) vx tv)
    (hs : ∀ x, foldedSetIterable iter X.env x = pure x := by intro _; rfl) : PE X (.DictComp kx vx [⟨tg, iter, [], 0⟩] scope pos) (tDcT wi g tk tv (own.map (·.2))) := by
  refine ⟨fun pn s σ H Q I h => ?_⟩
  rw [arm_eval_DictComp]
  have fr : ∀ y ∈ scope.names, y.2 = .free → ∃ c, X.env.cells.lookup y.1 = some c := fun y hy e => I.ok.has _ (by
    rcases ok.free y hy e with q | q
    · exact .inl q
    · exact .inr q)
  refine wpAny_comprehension_free rfl hs (closure_ok fr) ok.kind (fun y hy e => by rw [ok.uniq y hy, e]) (thn (hi.run pn s σ H _ I h) fun _ _ hx => thn hx fun _ s2 ⟨it, fp, tn, J, H2, ei, I2, T, t2, f2, q⟩ => ?_)
  subst ei
  refine wpAny_newObj_type (newEnv_comp ?_)
  -- the new dict, and the block's own cells
  have hD : H2 s2.heap.objs.size = none := I2.hok.fresh (Nat.le_refl _)
  obtain ⟨W, ⟨m0, w0⟩, turn⟩ := q _ hD
  revert turn w0 hD
  generalize hDs : s2.heap.objs.size = D
  intro hD turn w0
  generalize hs3 : ({ s2 with heap := s2.heap.push { cls := .type "dict", data := .dict #[] } } : Shared) = s3
  have e3 : s3.heap = s2.heap.push { cls := .type "dict", data := .dict #[] } := by rw [← hs3]
  have I3 : Inv X pn σ (upd H2 D (.dT [])) s3 := by
    rw [← hs3, ← hDs]
    exact I2.laid (t' := s2.toks) (fun _ _ e => Heap.get?_push_of_some _ e) (Nat.le_refl _) (dt_empty s2.heap I2.big)
  have f3 : ∀ b ∈ fp, FpOk X pn (upd H2 D (.dT [])) b ∧ b < s3.heap.objs.size := fun b hb => by
    obtain ⟨o, e, _⟩ := T.obj _ _ t2 b hb
    have lt := Heap.lt_size e
    refine ⟨⟨?_, (f2 b hb).2⟩, by rw [e3, Heap.size_push]; exact Nat.lt_succ_of_lt lt⟩
    rw [upd_ne (Nat.ne_of_lt (hDs ▸ lt))]; exact (f2 b hb).1
  have I4 := block_start I3 ok hN f3
  let cl := cellsFrom (s3.heap.objs.size + 1) scope.names (cloFrom X.env.cells scope.names [])
  have xg := hg s3 (upd H2 D (.dT [])) s3.heap.objs.size cl fp
  have xk := hk s3 (upd H2 D (.dT [])) s3.heap.objs.size cl fp
  have xv := hv s3 (upd H2 D (.dT [])) s3.heap.objs.size cl fp
  generalize hs4 : ({ s3 with heap := pushCells (s3.heap.push { cls := .type "dict", data := .dict #[] }) scope.names } : Shared) = s4 at I4
  have t4 : tn 0 s4.heap := T.keep _ _ _ t2 fun b _ o e => by
    rw [← hs4]
    exact pushCells_keeps _ _ _ _ (Heap.get?_push_of_some _ (by rw [e3]; exact Heap.get?_push_of_some _ e))
  have nof : ∀ b ∈ fp, (upd H2 D (.dT [])) b = none := fun b hb => (f3 b hb).1.1
  show codeAny _ _ (.compStart (.DictComp kx vx [⟨tg, iter, [], 0⟩] scope pos) 0 (.ref it) (.ref D) (compEnvC scope cl s3.heap.objs.size X.env)) (compPost (model X.prog X.w) X.A X.xe none (EP X pn σ Q) (.ref D) s3.heap.objs.size) s4
  have eL : (compEnvC scope cl s3.heap.objs.size X.env).locals = s3.heap.objs.size := rfl
  have I4' : Inv (X.blk s3 (upd H2 D (.dT [])) scope (compEnvC scope cl s3.heap.objs.size X.env) fp) [] (wipe σ (own.map (·.2))) (upd H2 D (.dT [])) s4 := I4
  clear I4
  revert xg xk xv I4' eL
  generalize compEnvC scope cl s3.heap.objs.size X.env = ce
  generalize upd H2 D (.dT []) = H3 at *
  intro xg xk xv eL I4
  let B : Cx := X.blk s3 H3 scope ce fp
  have ft : ∀ {τ : St} {F : Hp} {z : Shared}, Inv B [] τ F z → (∀ b ∈ fp, F b = none) → ∀ b ∈ fp, FpOk B [] F b := fun {τ F z} J n b hb =>
    ⟨n b hb, (J.ok.exf b hb).1, J.ok.exfs b hb, .inl hb, fun x c e => (J.ok.exf b hb).2 x c e, fun p hp => absurd (show p ∈ ([] : List (Addr × Obj)) ++ [] from hp) (by simp)⟩
  have go : codeAny (model X.prog X.w) X.A (.compLoop (.DictComp kx vx [⟨tg, iter, [], 0⟩] scope pos) 0 (.ref it) (.ref D) ce) (compPost (model X.prog X.w) X.A X.xe none (EP X pn σ Q) (.ref D) s3.heap.objs.size) s4 := by
    refine compLoop_anyD (fun n z => ∃ i F, Inv B [] (wipe σ (own.map (·.2))) F z ∧ tn i z.heap ∧ (∀ b ∈ fp, F b = none) ∧ W i n F) ?_ m0 ⟨0, H3, I4, t4, nof, w0⟩
    rintro n z5 ⟨i, F5, J5, t5, n5, w5⟩
    rcases turn i n F5 w5 with ⟨st, fin⟩ | ⟨more, Nx, hN2, step⟩
    · refine thnF (T.done B rfl rfl rfl hc i [] z5 _ F5 (fun _ _ => False) J5 (ft J5 n5) t5 st) fun _ z6 ⟨e6, J6⟩ => ?_
      subst e6
      have J7 : Inv X pn σ F5 z6 := I3.call' (ch := fp) J6.os J6.base J6.hok J6.bare fun b hb => let f := (f3 b hb).1; ⟨f.2.2.2.1, f.2.1, f.2.2.2.2.1, f.2.2.2.2.2⟩
      have nC : F5 s3.heap.objs.size = none := eL ▸ (show F5 ce.locals = none from J6.free)
      obtain ⟨m, hn, _⟩ := J6.loc
      have hn : z6.heap.Ns s3.heap.objs.size m := eL ▸ (show z6.heap.Ns ce.locals m from hn)
      obtain ⟨p0, p1, p2, p3, p4, p5⟩ := I3.fpOk (Nat.le_refl _) nC
      exact ⟨m, hn, fun h2 sb => ⟨.ref D, F5, J7.turned (t' := z6.toks) (fun b o hb e => (sb.2 b hb).trans e) p0 p1 p3 p4 p5, rfl, fin⟩⟩
    · refine thnF (T.item B rfl rfl rfl hc i [] z5 _ F5 (fun _ _ => False) J5 (ft J5 n5) t5 more) fun _ z6 ⟨u, e6, next⟩ => ?_
      subst e6
      refine thnF next fun _ z7 ⟨x, F7, J7, rx, y7, t7, n7⟩ => ?_
      refine thnF (xg.run _ z7 _ F7 x u _ (J7.pinned (ft J7 n7) (T.obj _ _ t7)) rx (step x F7 y7)) fun _ z8 ⟨τ, F8, J8, ew, k8⟩ => ?_
      refine wpAny_pure ?_
      refine thnF (xk.run _ z8 τ F8 _ J8 k8) fun _ z9 ⟨y, F9, J9, ry, k9⟩ => ?_
      refine thnF (xv.run _ z9 τ F9 _ J9 k9) fun _ z10 ⟨yv, F10, J10, rv, l, ky, b, ey, hb, hl, hz, nx⟩ => ?_
      subst ey
      cases ry
      refine dictSetT (X := B) hu J10 hl hb hz rv fun z11 J11 => ?_
      obtain ⟨m1, lt1, w1⟩ := hN2 _ nx
      have pin : ∀ c ∈ fp, ∀ o, z7.heap.get? c = some o → z11.heap.get? c = some o ∧ upd F10 D (.dT (putK l ky yv)) c = none := fun c hcm o e =>
        let p := J11.pin (c, o) (List.mem_append_right _ (List.mem_append_right _ (mem_pinsAt hcm e))); ⟨p.1, p.2.1⟩
      refine ⟨m1, lt1, i + 1, _, (J11.unpinned (pins := [])).weak (by rw [← ew, wipe_length]) (fun j v e => ?_), T.keep _ _ _ t7 fun c hcm o e => (pin c hcm o e).1, fun c hcm => ?_, w1⟩
      · rw [← ew] at e
        exact (wipe_some e).1
      · obtain ⟨o, e, _⟩ := T.obj _ _ t7 c hcm
        exact (pin c hcm o e).2
  exact codeAny_compStart_dict go (T.self X.A 0 _ _ _ t4 go)
end
end L2
set_option Elab.async false
set_option linter.all false
set_option maxRecDepth 100000
set_option maxHeartbeats 4000000
/-! Rz12: typed readings for sorted, enumerate, sets, dict comprehensions, locks, walks of keys. Own work. -/
namespace L2
open PySem PySem.Spec
def wOr (a b : TI) : TI := fun σ H R => a σ H R ∨ b σ H R
theorem PI.or {X : Cx} {tg e : Expr} {a b : TI} (h : PI X tg e a) (h' : PI X tg e b) : PI X tg e (wOr a b) :=
  ⟨fun pins s σ H R I q => q.elim (h.run pins s σ H R I) (h'.run pins s σ H R I)⟩
theorem pi_seqK {X : Cx} (K : PySem.W.Frag) {tg l : Expr} {tl : TE} (hl : PE X l tl) (e : X.K = K := by rfl) : PI X tg l (wOr (iTup K tl) (iList K tl)) := by
  subst e; exact (pi_tup hl).or (pi_list hl)
end L2
namespace Rz
open PySem PySem.Spec L2
section
variable {K : PySem.W.Frag} {t : Tys} {O : Os} {ta tb tc te td ty tx tk tv : TE} {tr : TA} {tt tu : TT} {Ra Rb Rc R R' Rx : Rp} {r : List V → Hp → VK → Prop}
theorem VC.inl {r' : List V → Hp → VK → Prop} {Rs : List Rp} (h : VC O r Rs R) : VC O (fun xs H Q => r xs H Q ∨ r' xs H Q) Rs R := fun G H vs hx o sb Q q => .inl (h G H vs hx o sb Q q)
theorem VC.inr {r' : List V → Hp → VK → Prop} {Rs : List Rp} (h : VC O r Rs R) : VC O (fun xs H Q => r' xs H Q ∨ r xs H Q) Rs R := fun G H vs hx o sb Q q => .inr (h G H vs hx o sb Q q)
theorem SrcT.inl {a b : TI} {Rs : List Rp} (h : SrcT t O a Rs) : SrcT t O (wOr a b) Rs := fun s G H T o sb Rk q => .inl (h s G H T o sb Rk q)
theorem SrcT.inr {a b : TI} {Rs : List Rp} (h : SrcT t O b Rs) : SrcT t O (wOr a b) Rs := fun s G H T o sb Rk q => .inr (h s G H T o sb Rk q)

/-! ### sorted -/
/-- rearranged, in the order of tuples -/
def Lex (nss mss : List (List Int)) : Prop := mss.Perm nss ∧ mss.Pairwise (fun x y => HT.lexLt y x = false)
/-- the ints of a known tuple -/
def intsAt (G : Hp) : V → List Int
  | .ref a => match G a with
    | some (.tup vs) => vs.map fun v => match v with
      | .int i => i
      | _ => 0
    | _ => []
  | _ => []
theorem intsAt_of {G : Hp} {v : V} {ns : List Int} (h : (rTI ns).p v G) : intsAt G v = ns := by
  obtain ⟨a, rfl, ha⟩ := rTI_at h
  unfold intsAt
  simp only [ha]
  rw [List.map_map]
  exact (List.map_congr_left fun _ _ => rfl).trans (List.map_id ns)
theorem all2_ints {G : Hp} : ∀ {vs : List V} {nss : List (List Int)}, All2 vs (nss.map rTI) G → vs.map (intsAt G) = nss ∧ ∀ v ∈ vs, (rTI (intsAt G v)).p v G
  | [], [], _ => ⟨rfl, fun _ h => nomatch h⟩
  | v :: vs, ns :: nss, h => by
    obtain ⟨h1, h2⟩ := all2_ints (vs := vs) (nss := nss) h.2
    have e := intsAt_of h.1
    refine ⟨by rw [List.map_cons, h1, e], fun u hu => ?_⟩
    rcases List.mem_cons.mp hu with rfl | hu
    · rw [e]; exact h.1
    · exact h2 u hu
  | [], _ :: _, h => h.elim
  | _ :: _, [], h => h.elim
theorem all2_of_ints {G : Hp} : ∀ {vs : List V}, (∀ v ∈ vs, (rTI (intsAt G v)).p v G) → All2 vs ((vs.map (intsAt G)).map rTI) G
  | [], _ => trivial
  | v :: vs, h => ⟨h v List.mem_cons_self, all2_of_ints fun u hu => h u (List.mem_cons_of_mem _ hu)⟩
theorem vc_sortedLx {nss : List (List Int)} (ne : ∀ ns ∈ nss, ns ≠ []) : VC O (rSortedLx K) [rLst (nss.map rTI)] (rEx (Lex nss) fun mss => rLst (mss.map rTI)) := fun G H vs hx _ sb Q q => by
  match vs, hx with
  | [v], hx =>
    obtain ⟨⟨a, xs, rfl, ha, h2⟩, _⟩ := hx
    obtain ⟨e1, e2⟩ := all2_ints h2
    refine ⟨a, xs, intsAt G, rfl, sb.lst ha, fun x hx => ?_, fun ys p pm pw hp => ?_⟩
    · obtain ⟨b, eb, hb⟩ := rTI_at (e2 x hx)
      refine ⟨⟨b, eb, sb.at_ hb rfl⟩, ne _ ?_⟩
      rw [← e1]; exact List.mem_map.mpr ⟨x, hx, rfl⟩
    · have h3 : All2 ys ((ys.map (intsAt G)).map rTI) G := all2_of_ints fun y hy => e2 y (pm.mem_iff.mp hy)
      refine q _ _ _ (Step.new sb hp) ⟨ys.map (intsAt G), ⟨?_, List.pairwise_map.mpr pw⟩, p, ys, rfl, upd_same, h3.mono (Ex.new (sb.none hp))⟩
      have h4 := pm.map (intsAt G)
      rw [e1] at h4; exact h4
/-- tuples that stand are learnt -/
theorem learn_all {H : Hp} : ∀ {nss : List (List Int)} {ys : List V} {G : Hp}, Sub G H → Paired (fun ns y => TupN H y ns) nss ys → ∃ G', Step [] G H G' H ∧ All2 ys (nss.map rTI) G'
  | _, _, G, sb, .nil => ⟨G, Step.refl sb, trivial⟩
  | _, _, G, sb, .cons (a := ns) (b := y) h t => by
    obtain ⟨b, rfl, hb⟩ := h
    have s1 := Step.learn sb hb
    obtain ⟨G2, s2, h2⟩ := learn_all s1.sub t
    exact ⟨G2, s1.trans s2, rTI_of (s2.gg _ _ upd_same), h2⟩
theorem vc_sortedDT {r : List (List Key × Rp)} {Rd0 : Rp} {nss : List (List Int)} (d : DT O Rd0 r) (hk : r.map (·.1) = nss.map (·.map Sum.inl)) (ne : ∀ ns ∈ nss, ns ≠ []) : VC O rSortedDT [Rd0] (rEx (Lex nss) fun mss => rLst (mss.map rTI)) := fun G H vs hx o sb Q q => by
  match vs, hx with
  | [v], hx =>
    obtain ⟨a, l, rfl, h1, h2⟩ := d.at_ hx.1 o sb
    refine ⟨a, l, nss, rfl, h1, h2.keys.trans hk, ne, fun ys mss p pm pw pr hp => ?_⟩
    obtain ⟨G2, s2, h3⟩ := learn_all sb pr
    exact q _ _ _ (s2.trans (Step.new s2.sub hp)) ⟨mss, ⟨pm, pw⟩, p, ys, rfl, upd_same, h3.mono (Ex.new (s2.sub.none hp))⟩
/-- sorted of a dict of ints -/
theorem vc_sortedDI {r : List (Key × Rp)} {Rd0 : Rp} {ns : List Int} (d : DK O Rd0 r) (hk : r.map (·.1) = ns.map Sum.inl) (hl : ns.length < 64) : VC O (fun xs H Q => ∃ (a : Addr) (kvs : List (Key × V)) (ks : List Int), xs = [.ref a] ∧ Rd H a (.dK kvs) ∧ kvs.map (·.1) = ks.map Sum.inl ∧ ks.length < 64 ∧
    ∀ (ys : List Int) (p : Addr), ys.Perm ks → ys.Pairwise (· ≤ ·) → H p = none → Q (.ref p) (upd H p (.lst (ys.map V.int)))) [Rd0] (rEx (Rise ns) fun ns' => rLI ns') := fun G H vs hx o sb Q q => by
  match vs, hx with
  | [v], hx =>
    obtain ⟨a, l, rfl, h1, h2⟩ := d.at_ hx.1 o sb
    exact ⟨a, l, ns, rfl, h1, h2.keys.trans hk, hl, fun ys p pm pw hp => q _ _ _ (Step.new sb hp) ⟨ys, ⟨pm, pw⟩, rLI_of upd_same⟩⟩

/-! ### enumerate -/
theorem src_enumT {Rs : List Rp} (h : EvA t O tr [rTup Rs]) : SrcT t O (iEnumT K tr) (Rs.zipIdx.map fun p => rTup [rInt (p.2 : Int), p.1]) := fun s G H T o sb Rk q => h s G H T o sb _ fun vs G' H' st hv => by
  match vs, hv with
  | [v], hv =>
    obtain ⟨⟨a, xs, rfl, ha, hx⟩, _⟩ := hv
    refine ⟨a, xs, rfl, st.sub.tup ha, q _ G' H' st ⟨fun i H2 G2 hi e s2 => ?_, fun H2 G2 e s2 => ?_, fun i H2 G2 x H3 R hR e s2 y => ?_⟩⟩
    · have h1 : i < xs.length := by rw [hx.length]; simpa using hi
      exact ⟨xs, xs[i], s2.tup (e _ _ ha), by simp [h1]⟩
    · exact ⟨xs, s2.tup (e _ _ ha), by rw [hx.length]; simp⟩
    · obtain ⟨A, hA, rfl⟩ := enum_get hR
      obtain ⟨T1, x1, rfl, hT, rfl, f1⟩ := y
      obtain ⟨v1, k1, k2⟩ := hx.get hA
      have e1 := f1 xs (s2.tup (e _ _ ha))
      rw [k1] at e1; cases e1
      have ee : Ex G' (upd G2 T1 (.tup [.int (i : Nat), x1])) := e.trans (Ex.new (s2.none hT))
      exact ⟨_, Step.new s2 hT, T1, _, rfl, upd_same, rfl, A.mono _ _ _ ee k2, trivial⟩

/-! ### sets of ints -/
def rSetI (w : World) (ns : List Int) : Rp := ⟨fun v G => ∃ a c, v = .ref a ∧ c ≤ ns.length ∧ G a = some (SetO w a (fun j => decide (j ∈ ns)) c), fun _ _ _ e ⟨a, c, h1, h2, h3⟩ => ⟨a, c, h1, h2, e _ _ h3⟩⟩
theorem vc_setTI {w : World} {ns : List Int} (hl : ns.length ≤ 60) : VC O (rSetTI K w) [rTI ns] (rSetI w ns) := fun G H vs hx _ sb Q q => by
  match vs, hx with
  | [v], hx =>
    obtain ⟨a, rfl, ha⟩ := rTI_at hx.1
    exact ⟨a, ns, rfl, sb.tup ha, hl, fun p c hc hp => q _ _ _ (Step.new sb hp) ⟨p, c, rfl, hc, upd_same⟩⟩
/-- rising, of the same members -/
def Mem (ns ms : List Int) : Prop := ms.Pairwise (· < ·) ∧ ∀ k, k ∈ ms ↔ k ∈ ns
theorem vc_sortedSet {w : World} {ns : List Int} (hl : ns.length ≤ 60) : VC O (rSortedSet w) [rSetI w ns] (rEx (Mem ns) fun ms => rLI ms) := fun G H vs hx _ sb Q q => by
  match vs, hx with
  | [v], hx =>
    obtain ⟨a, c, rfl, hc, ha⟩ := hx.1
    exact ⟨a, _, c, rfl, sb.at_ ha rfl, by omega, fun ms p pw me _ hp => q _ _ _ (Step.new sb hp) ⟨ms, ⟨pw, fun k => (me k).trans decide_eq_true_iff⟩, rLI_of upd_same⟩⟩

/-! ### dict(pairs), its length -/
theorem putAll_len {κ : Type} [DecidableEq κ] : ∀ {es l : List (κ × V)}, ((l ++ es).map (·.1)).Nodup → (putAll l es).length = l.length + es.length
  | [], l, _ => rfl
  | e :: es, l, nd => by
    have hn : (l.any fun x => decide (x.1 = e.1)) = false := by
      rw [List.any_eq_false]
      intro x hx
      rw [List.map_append, List.nodup_append] at nd
      have := nd.2.2 x.1 (List.mem_map.mpr ⟨x, hx, rfl⟩) e.1 (by simp)
      simpa using this
    have ep : putK l e.1 e.2 = l ++ [e] := by unfold putK; rw [hn]; simp
    show (putAll (putK l e.1 e.2) es).length = _
    rw [ep, putAll_len (by simpa using nd)]
    simp; omega
/-- len(dict(xs)), xs pairs of tuples, all unlike -/
theorem ev_lenDictPT {nss : List (List Int)} {Rw : Rp} {rp : List V → Hp → VK → Prop} (nd : nss.Nodup) (h : EvT t O te (rLst (nss.map fun ns => rTup [rTI ns, Rw]))) : EvT t O (tCB (fun xs H Q => rp xs H Q ∨ rLenT xs H Q) (tCons (tCB (fun xs H Q => r xs H Q ∨ rDictPT K xs H Q) (tCons te tNil)) tNil)) (rInt (nss.length : Nat)) := fun s G H T o sb Q q => h s G H T o sb _ fun v G1 H1 s1 hv => by
  obtain ⟨a, xs, rfl, ha, hx⟩ := hv
  have key : ∀ {xs : List V} {nss : List (List Int)}, All2 xs (nss.map fun ns => rTup [rTI ns, Rw]) G1 → ∃ (ps : List Addr) (es : List (List Key × Addr × V)), xs = ps.map V.ref ∧ es.map (·.1) = nss.map (·.map Sum.inl) ∧ Paired (fun p e => SqT K H1 p [.ref e.2.1, e.2.2] ∧ H1 e.2.1 = some (.tup (e.1.map kV))) ps es := by
    intro xs
    induction xs with
    | nil =>
      intro nss h
      match nss, h with
      | [], _ => exact ⟨[], [], rfl, rfl, .nil⟩
    | cons x xs ih =>
      intro nss h
      match nss, h with
      | ns :: nss, h =>
        obtain ⟨ps, es, e1, e2, e3⟩ := ih h.2
        obtain ⟨b, us, rfl, hb, hus⟩ := h.1
        match us, hus with
        | [u1, u2], hus =>
          obtain ⟨c, rfl, hc⟩ := rTI_at hus.1
          refine ⟨b :: ps, (ns.map Sum.inl, c, u2) :: es, by rw [e1]; rfl, by rw [List.map_cons, e2]; rfl, .cons ⟨s1.sub.tup hb, ?_⟩ e3⟩
          show H1 c = some (.tup ((ns.map Sum.inl).map kV))
          rw [keyN]; exact s1.sub.at_ hc rfl
  obtain ⟨ps, es, rfl, ek, pr⟩ := key hx
  refine .inr ⟨a, ps, es, rfl, s1.sub.lst ha, pr, fun p hp => .inr ⟨p, _, rfl, upd_same, ?_⟩⟩
  have hl : (putAll [] (es.map fun e => (e.1, e.2.2))).length = nss.length := by
    rw [putAll_len]
    · rw [List.length_nil, Nat.zero_add, List.length_map]
      have := congrArg List.length ek
      rwa [List.length_map, List.length_map] at this
    · rw [List.nil_append, List.map_map]
      show (es.map (·.1)).Nodup
      rw [ek]
      refine List.Pairwise.map _ (fun x y hxy e => hxy ?_) nd
      exact List.map_inj_right (fun _ _ h => Sum.inl.inj h) |>.mp e
  rw [hl]
  exact q _ _ _ (s1.trans (Step.newH s1.sub hp)) rfl
/-- .. of ints -/
theorem ev_lenDictP {ns : List Int} {Rw : Rp} (nd : ns.Nodup) (h : EvT t O te (rLst (ns.map fun n => rTup [rInt n, Rw]))) :
    EvT t O (tCB (fun xs H Q => (∃ a kvs, xs = [V.ref a] ∧ H a = some (.dK kvs) ∧ Q (.int kvs.length) H) ∨ rLenT xs H Q)
      (tCons (tCB (fun xs H Q => (∃ (a : Addr) (ps : List Addr) (kvs : List (Key × V)), xs = [.ref a] ∧ SqL K H a (ps.map V.ref) ∧ Paired (fun p kv => SqT K H p [kV kv.1, kv.2]) ps kvs ∧ ∀ p, H p = none → Q (.ref p) (upd H p (.dK (mergeK [] kvs)))) ∨ r xs H Q) (tCons te tNil)) tNil)) (rInt (ns.length : Nat)) := fun s G H T o sb Q q => h s G H T o sb _ fun v G1 H1 s1 hv => by
  obtain ⟨a, xs, rfl, ha, hx⟩ := hv
  have key : ∀ {xs : List V} {ns : List Int}, All2 xs (ns.map fun n => rTup [rInt n, Rw]) G1 → ∃ (ps : List Addr) (es : List (Key × V)), xs = ps.map V.ref ∧ es.map (·.1) = ns.map Sum.inl ∧ Paired (fun p kv => SqT K H1 p [kV kv.1, kv.2]) ps es := by
    intro xs
    induction xs with
    | nil =>
      intro ns h
      match ns, h with
      | [], _ => exact ⟨[], [], rfl, rfl, .nil⟩
    | cons x xs ih =>
      intro ns h
      match ns, h with
      | n :: ns, h =>
        obtain ⟨ps, es, e1, e2, e3⟩ := ih h.2
        obtain ⟨b, us, rfl, hb, hus⟩ := h.1
        match us, hus with
        | [u1, u2], hus =>
          have e : u1 = .int n := hus.1
          subst e
          exact ⟨b :: ps, (.inl n, u2) :: es, by rw [e1]; rfl, by rw [List.map_cons, e2]; rfl, .cons (s1.sub.tup hb) e3⟩
  obtain ⟨ps, es, rfl, ek, pr⟩ := key hx
  refine .inl ⟨a, ps, es, rfl, s1.sub.lst ha, pr, fun p hp => .inl ⟨p, _, rfl, upd_same, ?_⟩⟩
  have hl : (mergeK [] es).length = ns.length := by
    show (putAll [] es).length = _
    rw [putAll_len]
    · rw [List.length_nil, Nat.zero_add]
      have := congrArg List.length ek
      rwa [List.length_map, List.length_map] at this
    · rw [List.nil_append, ek]
      exact List.Pairwise.map _ (fun x y hxy e => hxy (Sum.inl.inj e)) nd
  rw [hl]
  exact q _ _ _ (s1.trans (Step.newH s1.sub hp)) rfl
end
end Rz
set_option Elab.async false
set_option linter.all false
set_option maxRecDepth 100000
set_option maxHeartbeats 4000000
/-! Rz13: readings that may change one list and keep its shape; promises of defs that change an argument or make a new object; dict comprehensions; locks. Own work. -/
namespace Rz
open PySem PySem.Spec L2

/-! ### one object may change, its shape stays -/
/-- at p an object of the shape c -/
def BoxIn (p : Addr) (c : OC) (O : Os) : Prop := (p, c) ∈ O ∧ c.may = true ∧ ∀ e ∈ O, e.1 = p → e.2 = c
section
variable {K : PySem.W.Frag} {Y : List Addr} {t t' : Tys} {O O' : Os} {W : List Addr} {p : Addr} {c : OC} {te ta tb tl th tc : TE} {tr tk : TA} {tt tu : TT} {ts tz : TS} {Ra Rb R R' : Rp} {r : R2} {Nx : Nxt} {Rt : Rts} {b : Bs} {s : St} {G H G' H' : Hp}
theorem BoxIn.nt (h : BoxIn p c O) (ro : RO O G H) : NT H p := by
  obtain ⟨o, h1, h2⟩ := ro _ h.1
  exact .mut h1 (ok_mut h2 h.2.1)
theorem BoxIn.of {k : Nat} (hk : O[k]? = some (p, c)) (hm : c.may = true) (nd : (O.map (·.1)).Nodup) : BoxIn p c O := by
  refine ⟨List.mem_of_getElem? hk, hm, fun e he ep => ?_⟩
  obtain ⟨j, hj, rfl⟩ := List.mem_iff_getElem.mp he
  obtain ⟨hk1, hk2⟩ := List.getElem?_eq_some_iff.mp hk
  have : (O.map (·.1))[j]'(by simpa using hj) = (O.map (·.1))[k]'(by simpa using hk1) := by simp [ep, hk2]
  have e := (List.getElem_inj nd).mp this
  subst e; rw [hk2]
/-- the object is as it was read, the rest as it was -/
theorem RO.stepZ (hb : BoxIn p c O) (ro : RO O G H) (st : Step [p] G H G' H') (hp : RO [(p, c)] G' H') : RO O G' H' := fun e he => by
  by_cases ep : e.1 = p
  · have := hp (p, c) (by simp)
    rw [← ep, ← hb.2.2 e he ep] at this
    exact this
  · obtain ⟨o, h1, h2⟩ := ro e he
    exact ⟨o, st.hh _ _ h1 (by simpa using ep), OC.ok_mono st.gg h2⟩
def EvZ (p : Addr) (c : OC) (t : Tys) (O : Os) (te : TE) (R : Rp) : Prop := BoxIn p c O → ∀ s G H, Ty s t G → RO O G H → Sub G H → G p = none → ∀ Q : VK, (∀ v G' H', Step [p] G H G' H' → RO O G' H' → R.p v G' → Q v H') → te s H Q
def EaZ (p : Addr) (c : OC) (t : Tys) (O : Os) (ta : TA) (Rs : List Rp) : Prop := BoxIn p c O → ∀ s G H, Ty s t G → RO O G H → Sub G H → G p = none → ∀ Q : List V → Hp → Prop, (∀ vs G' H', Step [p] G H G' H' → RO O G' H' → All2 vs Rs G' → Q vs H') → ta s H Q
def EbZ (p : Addr) (c : OC) (t : Tys) (O : Os) (tt : TT) (b : Bool → Prop) : Prop := BoxIn p c O → ∀ s G H, Ty s t G → RO O G H → Sub G H → G p = none → ∀ Q : Bool → Hp → Prop, (∀ x G' H', b x → Step [p] G H G' H' → RO O G' H' → Q x H') → tt s H Q
theorem BoxIn.keep (h : BoxIn p c O) (ro : RO O G H) (hg : G p = none) (st : Step [p] G H G' H') : G' p = none := (st.old p (h.nt ro)).trans hg
theorem ez_of (h : EvT t O te R) : EvZ p c t O te R := fun _ s G H T ro sb _ Q q => h s G H T ro sb Q fun v G' H' st hv => q v G' H' st.any (ro.step st.gg st.ex) hv
theorem EvZ.to (h : EvZ p c t O te R) (e : R = R') : EvZ p c t O te R' := e ▸ h
theorem EvZ.sub (h : EvZ p c t O te R) (k : ∀ v G, R.p v G → R'.p v G) : EvZ p c t O te R' := fun hb s G H T o sb hg Q q => h hb s G H T o sb hg Q fun v G' H' st o' hv => q v G' H' st o' (k v G' hv)
theorem eaz_of {Rs : List Rp} (h : EvA t O tr Rs) : EaZ p c t O tr Rs := fun _ s G H T ro sb _ Q q => h s G H T ro sb Q fun v G' H' st hv => q v G' H' st.any (ro.step st.gg st.ex) hv
theorem ez_op (ha : EvZ p c t O ta Ra) (hb : EvZ p c t O tb Rb) (hr : VO O r Ra Rb R) : EvZ p c t O (tOp r ta tb) R := fun h s G H T o sb hg Q q =>
  ha h s G H T o sb hg _ fun x G1 H1 s1 o1 hx => hb h s G1 H1 (T.mono s1.gg) o1 s1.sub (h.keep o hg s1) _ fun y G2 H2 s2 o2 hy =>
    hr G2 H2 x y (Ra.mono _ _ _ s2.gg hx) hy o2 s2.sub _ fun v G3 H3 s3 hv => q v G3 H3 ((s1.trans s2).trans s3.any) (o2.step s3.gg s3.ex) hv
theorem eaz_cons {Rs : List Rp} (ha : EvZ p c t O ta Ra) (hr : EaZ p c t O tr Rs) : EaZ p c t O (tCons ta tr) (Ra :: Rs) := fun h s G H T o sb hg Q q =>
  ha h s G H T o sb hg _ fun x G1 H1 s1 o1 hx => hr h s G1 H1 (T.mono s1.gg) o1 s1.sub (h.keep o hg s1) _ fun xs G2 H2 s2 o2 hxs =>
    q (x :: xs) G2 H2 (s1.trans s2) o2 ⟨Ra.mono _ _ _ s2.gg hx, hxs⟩
theorem ez_cb {r : List V → Hp → VK → Prop} {Rs : List Rp} (ha : EaZ p c t O tr Rs) (hr : VC O r Rs R) : EvZ p c t O (tCB r tr) R := fun h s G H T o sb hg Q q =>
  ha h s G H T o sb hg _ fun x G1 H1 s1 o1 hx => hr G1 H1 x hx o1 s1.sub _ fun v G3 H3 s3 hv => q v G3 H3 (s1.trans s3.any) (o1.step s3.gg s3.ex) hv
/-- through an unknown: what is known of it is fixed when it comes -/
theorem ez_ex {β : Type} {P : β → Prop} {Rb : β → Rp} {te2 : TE} (h : EvZ p c t O te (rEx P Rb)) : EvZ p c t O te (rEx P Rb) := h
theorem VO.exL {β : Type} {P : β → Prop} {Rx : β → Rp} (h : ∀ z, P z → VO O r (Rx z) Rb R) : VO O r (rEx P Rx) Rb R := fun G H x y ⟨z, hz, hx⟩ hy o sb Q q => h z hz G H x y hx hy o sb Q q
theorem VO.exR {β : Type} {P : β → Prop} {Rx : β → Rp} (h : ∀ z, P z → VO O r Ra (Rx z) R) : VO O r Ra (rEx P Rx) R := fun G H x y hx ⟨z, hz, hy⟩ o sb Q q => h z hz G H x y hx hy o sb Q q
theorem VO.intro {β : Type} {P : β → Prop} {Rx : β → Rp} (z : β) (hz : P z) (h : VO O r Ra Rb (Rx z)) : VO O r Ra Rb (rEx P Rx) := fun G H x y hx hy o sb Q q => h G H x y hx hy o sb Q fun v G' H' st hv => q v G' H' st ⟨z, hz, hv⟩
theorem VC.intro {β : Type} {P : β → Prop} {Rx : β → Rp} {r : List V → Hp → VK → Prop} {Rs : List Rp} (z : β) (hz : P z) (h : VC O r Rs (Rx z)) : VC O r Rs (rEx P Rx) := fun G H x hx o sb Q q => h G H x hx o sb Q fun v G' H' st hv => q v G' H' st ⟨z, hz, hv⟩
theorem EvT.intro {β : Type} {P : β → Prop} {Rx : β → Rp} (z : β) (hz : P z) (h : EvT t O te (Rx z)) : EvT t O te (rEx P Rx) := h.sub fun _ _ hv => ⟨z, hz, hv⟩
theorem ebz_test {β : Type} {P : β → Prop} {f : β → Bool} (h : EvZ p c t O te (rEx P fun z => rBl (f z))) : EbZ p c t O (tTest te) (fun x => ∃ z, P z ∧ x = f z) := fun hb s G H T o sb hg Q q => h hb s G H T o sb hg _ fun v G' H' st o' ⟨z, hz, hv⟩ => ⟨f z, hv, q _ G' H' ⟨z, hz, rfl⟩ st o'⟩
theorem ez_toL {Rs : List Rp} {P : List Rp → Prop} {n : Int} {j : Nat} (h : EvZ p c t O te (rEx P rLst)) (hn : EvT t O th (rInt n)) (e : n = (j : Int)) : EvZ p c t O (tSl (rSlL K) te tNoPart (tPart th)) (rEx P fun Rs => rLst (Rs.take j)) := fun hb s G H T o sb hg Q q => h hb s G H T o sb hg _ fun v G1 H1 s1 o1 hv => by
  obtain ⟨Rs, hP, a, vs, rfl, h1, h2⟩ := hv
  subst e
  refine hn s G1 H1 (T.mono s1.gg) o1 s1.sub _ fun y G2 H2 s2 hy => ?_
  refine ⟨j, hy, a, vs, rfl, s2.sub.lst (s2.gg _ _ h1), fun l hl => ?_⟩
  rw [cutV_to]
  have s3 := Step.new (o := .lst (vs.take j)) s2.sub hl
  exact q _ _ _ ((s1.trans s2.any).trans s3.any) ((o1.step s2.gg s2.ex).step s3.gg s3.ex) ⟨Rs, hP, l, _, rfl, upd_same, ((h2.mono s2.gg).take j).mono s3.gg⟩

/-! ### .. in statements -/
theorem AtG.stepZ (a : AtG Y b t O W s H G) (hy : p ∈ Y) (hb : BoxIn p c O) (st : Step [p] G H G' H') (ro : RO O G' H') : AtG Y b t O W s H' G' where
  ty := a.ty.mono st.gg
  ro := ro
  st := a.st.trans (st.more fun x hx => by rw [List.mem_singleton.mp hx]; exact (a.y p hy).2.2.1)
  w := fun q hq => by
    obtain ⟨h1, ⟨o, h2, h3⟩, h4⟩ := a.w q hq
    have ne : q ≠ p := fun e => (a.y p hy).2.2.2 (by rw [← e]; exact h4)
    exact ⟨(st.old q (.mut h2 h3)).trans h1, ⟨o, st.hh q o h2 (by simpa using ne), h3⟩, h4⟩
  y := fun q hq => by
    obtain ⟨h1, ⟨o, h2, h3⟩, h4⟩ := a.y q hq
    refine ⟨(st.old q (.mut h2 h3)).trans h1, ?_, h4⟩
    by_cases e : q = p
    · obtain ⟨o', g1, g2⟩ := ro _ hb.1
      rw [e]; exact ⟨o', g1, ok_mut g2 hb.2.1⟩
    · exact ⟨o, st.hh q o h2 (by simpa using e), h3⟩
  nd := a.nd
theorem AtG.box (a : AtG Y b t O W s H G) {k : Nat} (hk : O[k]? = some (p, c)) (hm : c.may = true) : BoxIn p c O := .of hk hm a.nd
theorem hs_setZ {k i : Nat} (h : EvZ p c t O te R) (hk : O[k]? = some (p, c)) (hy : p ∈ Y) (hm : c.may = true := by rfl) (kk : HT Y (t.set i (some R)) O W tz Nx Rt) : HT Y t O W (tSeq (tAsg te (gName i)) tz) Nx Rt := fun b s H ⟨G, a⟩ D n r =>
  h (a.box hk hm) s G H a.ty a.ro a.sub (a.y p hy).1 _ fun v G' H' st ro hv => kk b _ _ ⟨G', (a.stepZ hy (a.box hk hm) st ro).setTy hv⟩ D n r
theorem hs_setZE {β : Type} {P : β → Prop} {Rb : β → Rp} {k i : Nat} (h : EvZ p c t O te (rEx P Rb)) (hk : O[k]? = some (p, c)) (hy : p ∈ Y) (hm : c.may = true := by rfl) (kk : ∀ z, P z → HT Y (t.set i (some (Rb z))) O W tz Nx Rt) : HT Y t O W (tSeq (tAsg te (gName i)) tz) Nx Rt := fun b s H ⟨G, a⟩ D n r =>
  h (a.box hk hm) s G H a.ty a.ro a.sub (a.y p hy).1 _ fun v G' H' st ro ⟨z, hz, hv⟩ => kk z hz b _ _ ⟨G', (a.stepZ hy (a.box hk hm) st ro).setTy hv⟩ D n r
theorem ht_retZ {k : Nat} (h : EvZ p c t O te R) (hk : O[k]? = some (p, c)) (hy : p ∈ Y) (hm : c.may = true := by rfl) (kk : Rt R O W) : HT Y t O W (tRet te) Nx Rt := fun b s H ⟨G, a⟩ D n r =>
  h (a.box hk hm) s G H a.ty a.ro a.sub (a.y p hy).1 _ fun v G' H' st ro hv => by
    have a' := a.stepZ hy (a.box hk hm) st ro
    exact r R O W v G' H' kk a'.st hv ro fun q hq => ⟨(a'.w q hq).1, (a'.w q hq).2.2⟩
/-- i, j = e1, e2 -/
theorem hs_parZ {k i j : Nat} {R1 R2 : Rp} (h : EaZ p c t O tr [R1, R2]) (hk : O[k]? = some (p, c)) (hy : p ∈ Y) (hm : c.may = true := by rfl) (kk : HT Y ((t.set i (some R1)).set j (some R2)) O W tz Nx Rt) : HT Y t O W (tSeq (tPar i j tr) tz) Nx Rt := fun b s H ⟨G, a⟩ D n r =>
  h (a.box hk hm) s G H a.ty a.ro a.sub (a.y p hy).1 _ fun vs G' H' st ro hv => by
    match vs, hv with
    | [v, w], hv => exact ⟨v, w, rfl, kk b _ _ ⟨G', ((a.stepZ hy (a.box hk hm) st ro).setTy hv.1).setTy hv.2.1⟩ D n r⟩
theorem hs_par {i j : Nat} {R1 R2 : Rp} (h : EvA t O tr [R1, R2]) (kk : HT Y ((t.set i (some R1)).set j (some R2)) O W tz Nx Rt) : HT Y t O W (tSeq (tPar i j tr) tz) Nx Rt := fun b s H ⟨G, a⟩ D n r =>
  h s G H a.ty a.ro a.sub _ fun vs G' H' st hv => by
    match vs, hv with
    | [v, w], hv => exact ⟨v, w, rfl, kk b _ _ ⟨G', ((a.step st).setTy hv.1).setTy hv.2.1⟩ D n r⟩
theorem hs_par3 {i j l : Nat} {R1 R2 R3 : Rp} (h : EvA t O tr [R1, R2, R3]) (kk : HT Y (((t.set i (some R1)).set j (some R2)).set l (some R3)) O W tz Nx Rt) : HT Y t O W (tSeq (tPar3 i j l tr) tz) Nx Rt := fun b s H ⟨G, a⟩ D n r =>
  h s G H a.ty a.ro a.sub _ fun vs G' H' st hv => by
    match vs, hv with
    | [u, v, w], hv => exact ⟨u, v, w, rfl, kk b _ _ ⟨G', (((a.step st).setTy hv.1).setTy hv.2.1).setTy hv.2.2.1⟩ D n r⟩
/-- an if whose test may change the object -/
theorem hs_ifZ {k : Nat} {bp : Bool → Prop} (h : EbZ p c t O tt bp) (hk : O[k]? = some (p, c)) (hy : p ∈ Y) (hm : c.may = true := by rfl) (h1 : bp true → HT Y t O W ts (fun _ _ _ => False) Rt) (h2 : bp false → HT Y t O W tz Nx Rt) : HT Y t O W (tSeq (tIfS tt ts tNext) tz) Nx Rt := fun b s H ⟨G, a⟩ D n r =>
  h (a.box hk hm) s G H a.ty a.ro a.sub (a.y p hy).1 _ fun x G' H' hx st ro => by
    have a' := a.stepZ hy (a.box hk hm) st ro
    cases x with
    | true => exact iteT (h1 hx b s H' ⟨G', a'⟩ _ (fun _ _ _ _ _ z _ => z.elim) r)
    | false => exact iteF (h2 hx b s H' ⟨G', a'⟩ D n r)
theorem ebz_and {b1 : Bool} {bp : Bool → Prop} (h1 : EvB t O tt b1) (h2 : b1 = true → EbZ p c t O tu bp) (hf : b1 = false → bp false) : EbZ p c t O (tAnd tt tu) bp := fun hb s G H T o sb hg Q q => h1 s G H T o sb _ fun G1 H1 s1 => by
  have s1' : Step [p] G H G1 H1 := s1.any
  cases b1 with
  | true => exact iteT (h2 rfl hb s G1 H1 (T.mono s1.gg) (o.step s1.gg s1.ex) s1.sub (hb.keep o hg s1') _ fun x G2 H2 hx s2 o2 => q x G2 H2 hx (s1'.trans s2) o2)
  | false => exact iteF (q _ G1 H1 (hf rfl) s1' (o.step s1.gg s1.ex))
end

/-! ### promises -/
/-- the object at p (the first argument) is changed from c x to what post says -/
def PrmM {α : Type} (Rs : α → Addr → List Rp) (c : α → OC) (O : α → Os) (pre : α → Prop) (post : α → OC → Prop) (R : α → Rp) : Sp := fun vs H Q _ => ∃ x G p, pre x ∧ All2 vs (Rs x p) G ∧ RO ((p, c x) :: O x) G H ∧ (((p, c x) :: O x).map (·.1)).Nodup ∧ G p = none ∧ Sub G H ∧
  ∀ v G' H' c', post x c' → Step [p] G H G' H' → RO [(p, c')] G' H' → (R x).p v G' → Q v H'
/-- it gives a new object that may change -/
def PrmN {α : Type} (Rs : α → List Rp) (O : α → Os) (pre : α → Prop) (post : α → OC → Prop) : Sp := fun vs H Q _ => ∃ x G, pre x ∧ All2 vs (Rs x) G ∧ RO (O x) G H ∧ Sub G H ∧ ∀ q o c G' H', post x c → Step [] G H G' H' → H q = none → G' q = none → H' q = some o → c.ok o G' → Q (.ref q) H'
section
variable {P : Program} {w : World} {K : PySem.W.Frag} {mg : Str → Option Value} {base : Heap} {x qual : Str} {params : Arguments} {body : List Stmt} {scope : Scope} {dvs : List V} {kws : List (Str × V)} {f : Addr} {fd : FuncData} {α : Type}
theorem fn_prmM {Rs : α → Addr → List Rp} {c : α → OC} {O : α → Os} {pre : α → Prop} {post : α → OC → Prop} {R : α → Rp} {N ps : List Str} {k : Nat} (F : FunD K x qual params body scope dvs kws f fd) (S : FnScope N ps scope) (hlen : ∀ a p, (Rs a p).length = ps.length) (hm : ∀ a, (c a).may = true)
    (hbody : ∀ (cdv : Value) (A : Around) (outer : List Env) (s : Shared) (H : Hp) (E : XK), Room k (A.deeper (PyProof.Rows.envOfC qual scope s.heap.objs.size f cdv)) →
      ∃ t, PSs (cxOf CX0 P w K mg base N qual scope f cdv A outer s H E).nox body t ∧ ∀ a p, pre a → (((p, c a) :: O a).map (·.1)).Nodup → HT [p] (startT N (Rs a p)) ((p, c a) :: O a) [] t (fun _ O' _ => R a = rNon ∧ ∃ c', post a c' ∧ (p, c') ∈ O') (fun R' O' _ => R' = R a ∧ ∃ c', post a c' ∧ (p, c') ∈ O')) :
    FnOk P w K mg base CX0 (k + 1) f fd ps (PrmM Rs c O pre post R) := by
  refine F.ok S (fun vs H Q E ⟨a, G, p, _, hv, _⟩ => by rw [hv.length, hlen a]) fun cdv A outer s H vs Q E hr ⟨a, G, p, hp, hv, ho, nd, hg, sb, q⟩ => ?_
  obtain ⟨t, h1, h2⟩ := hbody cdv A outer s H E hr
  obtain ⟨o, ho1, ho2⟩ := ho (p, c a) (by simp)
  refine ⟨t, h1.nox, h2 a p hp nd ⟨G, H, [p]⟩ _ H ⟨G, ?_, ho, Step.refl sb, by simp, fun y hy => ?_, nd⟩ _ (fun t' O' W' s' H' e ⟨G', a'⟩ => ?_) fun R' O' W' v G' H' e st hv' ro _ => ?_⟩
  · unfold L2.start startT
    rw [hv.length]
    exact ty_start (N := N) _ hv
  · rw [List.mem_singleton.mp hy]
    have ho1 : H p = some o := ho1
    exact ⟨hg, ⟨o, ho1, ok_mut ho2 (hm a)⟩, by simp, some_ne ho1⟩
  · obtain ⟨e, c', hc, hm'⟩ := e
    exact q .non G' H' c' hc a'.st (fun x hx => by rw [List.mem_singleton.mp hx]; exact a'.ro _ hm') (by rw [e]; rfl)
  · obtain ⟨rfl, c', hc, hm'⟩ := e
    exact q v G' H' c' hc st (fun x hx => by rw [List.mem_singleton.mp hx]; exact ro _ hm') hv'
theorem fn_prmN {Rs : α → List Rp} {O : α → Os} {pre : α → Prop} {post : α → OC → Prop} {N ps : List Str} {k : Nat} (F : FunD K x qual params body scope dvs kws f fd) (S : FnScope N ps scope) (hlen : ∀ a, (Rs a).length = ps.length) (hO : ∀ a, (O a).map (·.1) |>.Nodup)
    (hbody : ∀ (cdv : Value) (A : Around) (outer : List Env) (s : Shared) (H : Hp) (E : XK), Room k (A.deeper (PyProof.Rows.envOfC qual scope s.heap.objs.size f cdv)) →
      ∃ t, PSs (cxOf CX0 P w K mg base N qual scope f cdv A outer s H E).nox body t ∧ ∀ a, pre a → HT [] (startT N (Rs a)) (O a) [] t (fun _ _ _ => False) (fun R' O' W' => ∃ q c', R' = rRef q ∧ post a c' ∧ (q, c') ∈ O' ∧ q ∈ W')) :
    FnOk P w K mg base CX0 (k + 1) f fd ps (PrmN Rs O pre post) := by
  refine F.ok S (fun vs H Q E ⟨a, G, hp, hv, _⟩ => by rw [hv.length, hlen a]) fun cdv A outer s H vs Q E hr ⟨a, G, hp, hv, ho, sb, q⟩ => ?_
  obtain ⟨t, h1, h2⟩ := hbody cdv A outer s H E hr
  refine ⟨t, h1.nox, h2 a hp ⟨G, H, []⟩ _ H ⟨G, ?_, ho, Step.refl sb, by simp, by simp, hO a⟩ _ (fun t' O' W' s' H' e _ => e.elim) fun R' O' W' v G' H' e st hv' ro hw => ?_⟩
  · unfold L2.start startT
    rw [hv.length]
    exact ty_start (N := N) _ hv
  · obtain ⟨p, c', rfl, hc, hm, hW⟩ := e
    obtain ⟨o, h3, h4⟩ := ro _ hm
    have e : v = .ref p := hv'
    subst e
    exact q p o c' G' H' hc st (hw p hW).2 (hw p hW).1 h3 h4
end
section
variable {K : PySem.W.Frag} {Y : List Addr} {t : Tys} {O : Os} {W : List Addr} {p : Addr} {c : OC} {te : TE} {tr tk : TA} {tz : TS} {R : Rp} {Nx : Nxt} {Rt : Rts} {α : Type}
/-- x = f(..), f's value a new object -/
theorem en_callN {Rs : α → List Rp} {Oa : α → Os} {pre : α → Prop} {post : α → OC → Prop} {E : XK} (x : α) (c : OC) (hc : ∀ c', post x c' → c' = c) (ha : EvA t O tr (Rs x)) (hp : pre x) (ho : ∀ e ∈ Oa x, e ∈ O := by simp) : EvN t O (tCall (PrmN Rs Oa pre post) [] E tr) c := fun s G H T o sb Q q =>
  ha s G H T o sb _ fun vs G1 H1 s1 hvs => by
    refine ⟨x, G1, hp, by rw [List.append_nil]; exact hvs, fun e he => (o.step s1.gg s1.ex) e (ho e he), s1.sub, fun p u c' G' H' hc' st hp hg hu hok => ?_⟩
    have e := hc c' hc'
    subst e
    refine q p u G' H' (s1.trans st) ?_ hg hu hok
    cases z : H p with
    | none => rfl
    | some u => rw [s1.ex p u z] at hp; cases hp
/-- x = f(..), f's value one of some new objects -/
theorem hs_setCallN {Rs : α → List Rp} {Oa : α → Os} {pre : α → Prop} {post : α → OC → Prop} {E : XK} {i : Nat} (x : α) (ha : EvA t O tr (Rs x)) (hp : pre x) (hm : ∀ c, post x c → c.may = true) (k : ∀ p c, post x c → HT Y (t.set i (some (rRef p))) ((p, c) :: O) (p :: W) tz Nx Rt) (ho : ∀ e ∈ Oa x, e ∈ O := by simp) :
    HT Y t O W (tSeq (tAsg (tCall (PrmN Rs Oa pre post) [] E tr) (gName i)) tz) Nx Rt := fun b s H ⟨G, a⟩ D n r =>
  ha s G H a.ty a.ro a.sub _ fun vs G1 H1 s1 hvs => by
    refine ⟨x, G1, hp, by rw [List.append_nil]; exact hvs, fun e he => (a.ro.step s1.gg s1.ex) e (ho e he), s1.sub, fun p u c' G' H' hc' st hp hg hu hok => ?_⟩
    have hp0 : H p = none := by
      cases z : H p with
      | none => rfl
      | some u => rw [s1.ex p u z] at hp; cases hp
    exact k p c' hc' b _ _ ⟨G', (a.own (s1.trans st) hp0 hg hu hok (hm c' hc')).setTy rfl⟩ D n r
/-- f(..), the object's shape stays -/
theorem ez_callM {Rs : α → Addr → List Rp} {ca : α → OC} {Oa : α → Os} {pre : α → Prop} {post : α → OC → Prop} {Rr : α → Rp} {E : XK} (x : α) (ha : EaZ p c t O tr (Rs x p)) (hc : ca x = c) (hp : pre x) (hpost : ∀ c', post x c' → c' = c) (ho : ∀ e ∈ Oa x, e ∈ O) (nd : ((Oa x).map (·.1)).Nodup) (np : ∀ e ∈ Oa x, e.1 ≠ p) :
    EvZ p c t O (tCall (PrmM Rs ca Oa pre post Rr) [] E tr) (Rr x) := fun hb s G H T o sb hg Q q =>
  ha hb s G H T o sb hg _ fun vs G1 H1 s1 o1 hvs => by
    refine ⟨x, G1, p, hp, by rw [List.append_nil]; exact hvs, fun e he => ?_, List.nodup_cons.mpr ⟨fun hm => ?_, nd⟩, hb.keep o hg s1, s1.sub, fun v G' H' c' hc' st ro hv => ?_⟩
    · rcases List.mem_cons.mp he with rfl | he
      · rw [hc]; exact o1 _ hb.1
      · exact o1 e (ho e he)
    · obtain ⟨e, he, ee⟩ := List.mem_map.mp hm
      exact np e he ee
    · have e := hpost c' hc'
      subst e
      exact q v G' H' (s1.trans st) (RO.stepZ hb o1 st ro) hv
/-- f(..) as a statement, the object an own or an outside one that may change -/
theorem ht_callM {Rs : α → Addr → List Rp} {ca : α → OC} {Oa : α → Os} {pre : α → Prop} {post : α → OC → Prop} {Rr : α → Rp} {E : XK} {k : Nat} (x : α) (ha : EvA t O tr (Rs x p)) (hk : O[k]? = some (p, ca x)) (hw : p ∈ W ∨ p ∈ Y) (hp : pre x) (hm : ∀ c', post x c' → c'.may = true) (ho : ∀ e ∈ Oa x, e ∈ O) (nd : ((Oa x).map (·.1)).Nodup) (np : ∀ e ∈ Oa x, e.1 ≠ p)
    (h : ∀ c', post x c' → Nx t (O.set k (p, c')) W) : HT Y t O W (tDrop (tCall (PrmM Rs ca Oa pre post Rr) [] E tr)) Nx Rt := fun b s H ⟨G, a⟩ D n rr =>
  ha s G H a.ty a.ro a.sub _ fun vs G1 H1 s1 hvs => by
    have a1 := a.step s1
    have hmem := List.mem_of_getElem? hk
    have gp : G1 p = none := by
      rcases hw with h | h
      · exact (a1.w p h).1
      · exact (a1.y p h).1
    refine ⟨x, G1, p, hp, by rw [List.append_nil]; exact hvs, fun e he => ?_, List.nodup_cons.mpr ⟨fun hm => ?_, nd⟩, gp, s1.sub, fun v G' H' c' hc' st ro hv => ?_⟩
    · rcases List.mem_cons.mp he with rfl | he
      · exact a1.ro _ hmem
      · exact a1.ro e (ho e he)
    · obtain ⟨e, he, ee⟩ := List.mem_map.mp hm
      exact np e he ee
    · -- first the object's new content is put, then the rest of the step is gone
      obtain ⟨u, hu, hok⟩ := ro (p, c') (by simp)
      have hlt : k < O.length := (List.getElem?_eq_some_iff.mp hk).1
      have hOk : O[k] = (p, ca x) := (List.getElem?_eq_some_iff.mp hk).2
      have ndk : (O.set k (p, c')).map (·.1) = O.map (·.1) := by
        rw [List.map_set]
        apply List.ext_getElem (by simp)
        intro j h1 h2
        by_cases e : k = j
        · subst e; simp [hOk]
        · rw [List.getElem_set_ne e]
      have keepH : ∀ q o, H1 q = some o → q ≠ p → H' q = some o := fun q o hq ne => st.hh q o hq (by simpa using ne)
      refine n _ _ _ _ _ (h c' hc') ⟨G', a1.ty.mono st.gg, fun e he => ?_, ⟨a1.st.gg.trans st.gg, st.sub, fun q o hq nx => ?_, fun q hq => st.all q (a1.st.all q hq), fun q hq => (st.old q (a1.st.nt q hq)).trans (a1.st.old q hq), fun q hq => st.nt q (a1.st.nt q hq), fun q vs hq => st.tt q vs (a1.st.tt q vs hq)⟩, fun q hq => ?_, fun q hq => ?_, by rw [ndk]; exact a1.nd⟩
      · obtain ⟨j, hj, ej⟩ := List.mem_iff_getElem.mp he
        by_cases e1 : k = j
        · subst e1
          rw [List.getElem_set_self] at ej
          subst ej
          exact ⟨u, hu, hok⟩
        · rw [List.getElem_set_ne e1] at ej
          have hj' : j < O.length := by simpa using hj
          have he' : e ∈ O := by rw [← ej]; exact List.getElem_mem hj'
          have ne : e.1 ≠ p := fun q => e1 (by
            have h1 : (O.map (·.1))[k]'(by simpa using hlt) = (O.map (·.1))[j]'(by simpa using hj') := by simp [hOk, ej, q]
            exact (List.getElem_inj a1.nd).mp h1)
          obtain ⟨v, h1, h2⟩ := a1.ro e he'
          exact ⟨v, keepH _ _ h1 ne, OC.ok_mono st.gg h2⟩
      · have h1 := a1.st.hh q o hq nx
        by_cases e : q = p
        · exfalso
          rcases hw with h | h
          · rw [e, (a1.w p h).2.2] at hq; cases hq
          · exact nx (by rw [e]; exact (a1.y p h).2.2.1)
        · exact keepH q o h1 e
      · obtain ⟨h1, ⟨o, h2, h3⟩, h4⟩ := a1.w q hq
        refine ⟨(st.old q (.mut h2 h3)).trans h1, ?_, h4⟩
        by_cases e : q = p
        · rw [e]; exact ⟨u, hu, ok_mut hok (hm c' hc')⟩
        · exact ⟨o, keepH q o h2 e, h3⟩
      · obtain ⟨h1, ⟨o, h2, h3⟩, h4⟩ := a1.y q hq
        refine ⟨(st.old q (.mut h2 h3)).trans h1, ?_, h4⟩
        by_cases e : q = p
        · rw [e]; exact ⟨u, hu, ok_mut hok (hm c' hc')⟩
        · exact ⟨o, keepH q o h2 e, h3⟩
end
end Rz
set_option Elab.async false
set_option linter.all false
set_option maxRecDepth 100000
set_option maxHeartbeats 4000000
/-! Rz14: dict comprehensions, locks, walks of dicts, changes of lists, fields of a new object, several values at once. Own work. -/
namespace Rz
open PySem PySem.Spec L2

/-! ### dict comprehensions -/
def pkAll {κ α : Type} [DecidableEq κ] (l es : List (κ × α)) : List (κ × α) := es.foldl (fun acc e => pk acc e.1 e.2) l
theorem pkAll_snoc {κ α : Type} [DecidableEq κ] {l es : List (κ × α)} {e : κ × α} : pkAll l (es ++ [e]) = pk (pkAll l es) e.1 e.2 := by
  unfold pkAll; rw [List.foldl_append]; rfl
theorem pkAll_len {κ α : Type} [DecidableEq κ] : ∀ {es l : List (κ × α)}, (pkAll l es).length ≤ l.length + es.length
  | [], l => Nat.le_refl _
  | e :: es, l => by
    have h1 := pkAll_len (es := es) (l := pk l e.1 e.2)
    have h2 := pk_len (l := l) (k := e.1) (a := e.2)
    show (pkAll (pk l e.1 e.2) es).length ≤ _
    simp only [List.length_cons]; omega
/-- keys all unlike: the pairs themselves -/
theorem pkAll_nd {κ α : Type} [DecidableEq κ] : ∀ {es l : List (κ × α)}, ((l ++ es).map (·.1)).Nodup → pkAll l es = l ++ es
  | [], l, _ => by simp [pkAll]
  | e :: es, l, nd => by
    have hn : e.1 ∉ l.map (·.1) := fun h => by
      rw [List.map_append, List.nodup_append] at nd
      exact nd.2.2 e.1 h e.1 (by simp) rfl
    show pkAll (pk l e.1 e.2) es = _
    rw [pk_out hn, pkAll_nd (by simpa using nd)]
    simp
section
variable {K : PySem.W.Frag} {t : Tys} {O : Os} {wi : TI} {g : TG} {te tk tv td ty tx : TE} {tr : TA} {vs : List Nat} {α : Type} {xs : List α} {f r : α → Rp} {L : Os} {R : Rp}
theorem en_dcT {k : α → List Key} (hl : SrcW L t O wi (xs.map f)) (hL : ∀ e ∈ L, e ∈ O) (hz : xs.length ≤ sizeLine)
    (hs : ∀ x, x ∈ xs → ∃ t2 us, TgT g (f x) (wt t vs) t2 us ∧ (∀ u ∈ us, u ∈ vs) ∧ EvT t2 O tk (rKT (k x)) ∧ EvT t2 O tv (r x)) :
    EvN t O (tDcT wi g tk tv vs) (.dT (pkAll [] (xs.map fun x => (k x, r x)))) := fun s G H T o sb Q q => by
  refine hl s G H T o sb _ fun J G1 H1 st src => ?_
  intro D hD
  have rl : ∀ {G2 H2 : Hp}, Step [] G1 H1 G2 H2 → RO L G2 H2 := fun s e he => ((o.step st.gg st.ex).step s.gg s.ex) e (hL e he)
  have T1 := T.mono st.gg
  have o1 := o.step st.gg st.ex
  let Pv : Nat → Hp → Prop := fun i H2 => ∃ G2 acc, Step [] G1 H1 G2 H2 ∧ G2 D = none ∧ H2 D = some (.dT acc) ∧ AllK acc (pkAll [] ((xs.take i).map fun x => (k x, r x))) G2
  refine ⟨fun i m H2 => m = xs.length - i ∧ i ≤ xs.length ∧ Pv i H2, ⟨_, rfl, Nat.zero_le _, G1, [], Step.newH st.sub hD, st.sub.none hD, upd_same, trivial⟩, ?_⟩
  rintro i m H2 ⟨rfl, hi, G2, acc, s2, hg2, hD2, ha2⟩
  by_cases hlt : i < xs.length
  · refine .inr ⟨src.goes i H2 G2 (by simpa using hlt) s2.gg s2.sub (rl s2), Pv (i + 1), fun H' p' => ⟨xs.length - (i + 1), by omega, rfl, hlt, p'⟩, fun x H3 y => ?_⟩
    have hx : xs[i]? = some xs[i] := List.getElem?_eq_getElem hlt
    obtain ⟨G3, s3, hx3⟩ := src.yields i H2 G2 x H3 (f xs[i]) (by rw [List.getElem?_map, hx]; rfl) s2.gg s2.sub (rl s2) y
    obtain ⟨t2, us, tg, hu, hk, hv⟩ := hs xs[i] (List.getElem_mem hlt)
    have s13 := s2.trans s3
    have hD3 : H3 D = some (.dT acc) := s3.ex D _ hD2
    have hg3 : G3 D = none := (s3.old D (.mut hD2 trivial)).trans hg2
    refine tg x (wipe s vs) G3 H3 hx3 ((T1.mono s13.gg).wipe vs) s13.sub _ fun s4 T4 o4 => ⟨wipe_off hu o4, ?_⟩
    refine hk s4 G3 H3 T4 (o1.step s13.gg s13.ex) s13.sub _ fun v G5 H5 s5 hv5 => ?_
    have s15 := s13.trans s5
    refine hv s4 G5 H5 (T4.mono s5.gg) (o1.step s15.gg s15.ex) s15.sub _ fun w G6 H6 s6 hv6 => ?_
    have s16 := s15.trans s6
    have s36 := s5.trans s6
    have hD6 : H6 D = some (.dT acc) := s36.ex D _ hD3
    have hg6 : G6 D = none := (s36.old D (.mut hD3 trivial)).trans hg3
    obtain ⟨b, rfl, hb⟩ := rKT_at ((rKT (k xs[i])).mono _ _ _ s6.gg hv5)
    have hacc : acc.length ≤ i := by
      rw [ha2.length]
      refine Nat.le_trans pkAll_len ?_
      simp; omega
    refine ⟨acc, k xs[i], b, rfl, s16.sub.at_ hb rfl, hD6, by omega, G6, _, ⟨s16.gg, fun a u ha => ?_, fun a u ha _ => ?_, fun a ha => ?_, s16.old, fun a ha => ?_, fun a us ha => ?_⟩, hg6, upd_same, ?_⟩
    · have hne : a ≠ D := fun e => by rw [e, hg6] at ha; cases ha
      rw [upd_ne hne]; exact s16.sub a u ha
    · have hne : a ≠ D := fun e => by rw [e, hD] at ha; cases ha
      rw [upd_ne hne]; exact s16.ex a u ha
    · by_cases e : a = D
      · rw [e, upd_same]; simp
      · rw [upd_ne e]; exact s16.all a ha
    · by_cases e : a = D
      · rw [e]; exact .mut upd_same trivial
      · have n6 := s16.nt a ha
        exact ⟨by rw [upd_ne e]; exact n6.1, fun vs => by rw [upd_ne e]; exact n6.2 vs⟩
    · have hne : a ≠ D := fun e => by rw [e, hD] at ha; cases ha
      rw [upd_ne hne]; exact s16.ex a _ ha
    · rw [snoc_take hx, List.map_append]
      show AllK _ (pkAll [] (_ ++ [(k xs[i], r xs[i])])) _
      rw [pkAll_snoc]
      exact AllK.put (ha2.mono (s3.gg.trans s36.gg)) hv6
  · have e : i = xs.length := by omega
    subst e
    have fr : H D = none := by
      cases z : H D with
      | none => rfl
      | some u => rw [st.ex D u z] at hD; cases hD
    refine .inl ⟨?_, q D (.dT acc) G2 H2 (st.trans s2) fr hg2 hD2 ?_⟩
    · have := src.stops H2 G2 s2.gg s2.sub (rl s2)
      rwa [List.length_map] at this
    · rw [List.take_length] at ha2; exact ha2
theorem en_dcK {k : α → Key} (hl : SrcW L t O wi (xs.map f)) (hL : ∀ e ∈ L, e ∈ O) (hz : xs.length ≤ sizeLine)
    (hs : ∀ x, x ∈ xs → ∃ t2 us, TgT g (f x) (wt t vs) t2 us ∧ (∀ u ∈ us, u ∈ vs) ∧ EvT t2 O tk (rIs (kV (k x))) ∧ EvT t2 O tv (r x)) :
    EvN t O (tDc wi g tYes tk tv vs) (.dK (pkAll [] (xs.map fun x => (k x, r x)))) := fun s G H T o sb Q q => by
  refine hl s G H T o sb _ fun J G1 H1 st src => ?_
  intro D hD
  have rl : ∀ {G2 H2 : Hp}, Step [] G1 H1 G2 H2 → RO L G2 H2 := fun s e he => ((o.step st.gg st.ex).step s.gg s.ex) e (hL e he)
  have T1 := T.mono st.gg
  have o1 := o.step st.gg st.ex
  let Pv : Nat → Hp → Prop := fun i H2 => ∃ G2 acc, Step [] G1 H1 G2 H2 ∧ G2 D = none ∧ H2 D = some (.dK acc) ∧ AllK acc (pkAll [] ((xs.take i).map fun x => (k x, r x))) G2
  refine ⟨fun i m H2 => m = xs.length - i ∧ i ≤ xs.length ∧ Pv i H2, ⟨_, rfl, Nat.zero_le _, G1, [], Step.newH st.sub hD, st.sub.none hD, upd_same, trivial⟩, ?_⟩
  rintro i m H2 ⟨rfl, hi, G2, acc, s2, hg2, hD2, ha2⟩
  by_cases hlt : i < xs.length
  · refine .inr ⟨src.goes i H2 G2 (by simpa using hlt) s2.gg s2.sub (rl s2), Pv (i + 1), fun H' p' => ⟨xs.length - (i + 1), by omega, rfl, hlt, p'⟩, fun x H3 y => ?_⟩
    have hx : xs[i]? = some xs[i] := List.getElem?_eq_getElem hlt
    obtain ⟨G3, s3, hx3⟩ := src.yields i H2 G2 x H3 (f xs[i]) (by rw [List.getElem?_map, hx]; rfl) s2.gg s2.sub (rl s2) y
    obtain ⟨t2, us, tg, hu, hk, hv⟩ := hs xs[i] (List.getElem_mem hlt)
    have s13 := s2.trans s3
    have hD3 : H3 D = some (.dK acc) := s3.ex D _ hD2
    have hg3 : G3 D = none := (s3.old D (.mut hD2 trivial)).trans hg2
    refine tg x (wipe s vs) G3 H3 hx3 ((T1.mono s13.gg).wipe vs) s13.sub _ fun s4 T4 o4 => ⟨wipe_off hu o4, ?_⟩
    refine iteT (B := Pv (i + 1) H3) (hk s4 G3 H3 T4 (o1.step s13.gg s13.ex) s13.sub _ fun v G5 H5 s5 hv5 => ?_)
    have s15 := s13.trans s5
    refine hv s4 G5 H5 (T4.mono s5.gg) (o1.step s15.gg s15.ex) s15.sub _ fun w G6 H6 s6 hv6 => ?_
    have s16 := s15.trans s6
    have s36 := s5.trans s6
    have hD6 : H6 D = some (.dK acc) := s36.ex D _ hD3
    have hg6 : G6 D = none := (s36.old D (.mut hD3 trivial)).trans hg3
    have hacc : acc.length ≤ i := by
      rw [ha2.length]
      refine Nat.le_trans pkAll_len ?_
      simp; omega
    refine ⟨acc, k xs[i], hv5, hD6, by omega, G6, _, ⟨s16.gg, fun a u ha => ?_, fun a u ha _ => ?_, fun a ha => ?_, s16.old, fun a ha => ?_, fun a us ha => ?_⟩, hg6, upd_same, ?_⟩
    · have hne : a ≠ D := fun e => by rw [e, hg6] at ha; cases ha
      rw [upd_ne hne]; exact s16.sub a u ha
    · have hne : a ≠ D := fun e => by rw [e, hD] at ha; cases ha
      rw [upd_ne hne]; exact s16.ex a u ha
    · by_cases e : a = D
      · rw [e, upd_same]; simp
      · rw [upd_ne e]; exact s16.all a ha
    · by_cases e : a = D
      · rw [e]; exact .mut upd_same trivial
      · have n6 := s16.nt a ha
        exact ⟨by rw [upd_ne e]; exact n6.1, fun vs => by rw [upd_ne e]; exact n6.2 vs⟩
    · have hne : a ≠ D := fun e => by rw [e, hD] at ha; cases ha
      rw [upd_ne hne]; exact s16.ex a _ ha
    · rw [snoc_take hx, List.map_append]
      show AllK _ (pkAll [] (_ ++ [(k xs[i], r xs[i])])) _
      rw [pkAll_snoc]
      exact AllK.put (ha2.mono (s3.gg.trans s36.gg)) hv6
  · have e : i = xs.length := by omega
    subst e
    have fr : H D = none := by
      cases z : H D with
      | none => rfl
      | some u => rw [st.ex D u z] at hD; cases hD
    refine .inl ⟨?_, q D (.dK acc) G2 H2 (st.trans s2) fr hg2 hD2 ?_⟩
    · have := src.stops H2 G2 s2.gg s2.sub (rl s2)
      rwa [List.length_map] at this
    · rw [List.take_length] at ha2; exact ha2
end

/-! ### locks -/
section
variable {K : PySem.W.Frag} {Y : List Addr} {t : Tys} {O : Os} {W : List Addr} {te td : TE} {ts : TS} {R : Rp} {Nx : Nxt} {Rt : Rts} {p : Addr} {k : Nat}
/-- the O where p is locked -/
theorem set_keys {c c' : OC} (hO : O[k]? = some (p, c)) : (O.set k (p, c')).map (·.1) = O.map (·.1) := by
  obtain ⟨hlt, hOk⟩ := List.getElem?_eq_some_iff.mp hO
  rw [List.map_set]
  apply List.ext_getElem (by simp)
  intro j h1 h2
  by_cases e : k = j
  · subst e; simp [hOk]
  · rw [List.getElem_set_ne e]
/-- an entry of the O with another content at k -/
theorem set_mem {c c' : OC} {e : Addr × OC} (nd : (O.map (·.1)).Nodup) (hO : O[k]? = some (p, c)) (he : e ∈ O.set k (p, c')) : e = (p, c') ∨ (e ∈ O ∧ e.1 ≠ p) := by
  obtain ⟨hlt, hOk⟩ := List.getElem?_eq_some_iff.mp hO
  obtain ⟨j, hj, ej⟩ := List.mem_iff_getElem.mp he
  by_cases e1 : k = j
  · subst e1
    rw [List.getElem_set_self] at ej
    exact .inl ej.symm
  · rw [List.getElem_set_ne e1] at ej
    have hj' : j < O.length := by simpa using hj
    refine .inr ⟨by rw [← ej]; exact List.getElem_mem hj', fun q => e1 ?_⟩
    have h1 : (O.map (·.1))[k]'(by simpa using hlt) = (O.map (·.1))[j]'(by simpa using hj') := by simp [hOk, ej, q]
    exact (List.getElem_inj nd).mp h1
theorem RO.set {c c' : OC} {G H : Hp} {u : HO} (nd : (O.map (·.1)).Nodup) (hO : O[k]? = some (p, c)) (ro : RO O G H) (hc : c'.ok u G) : RO (O.set k (p, c')) G (upd H p u) := fun e he => by
  rcases set_mem nd hO he with rfl | ⟨h1, h2⟩
  · exact ⟨u, upd_same, hc⟩
  · obtain ⟨o, h3, h4⟩ := ro e h1
    exact ⟨o, by rw [upd_ne h2]; exact h3, h4⟩
/-- an expression that is read while a dict is locked -/
theorem ev_lock {c : OC} {u : HO} (nd : (O.map (·.1)).Nodup) (hO : O[k]? = some (p, c)) (hm : c.may = true) (lk : Obj → HO → OC) (hlk : ∀ od o G, c.ok o G → isD o = true ∧ (lk od o).ok (.frz od o) G) (h : ∀ od o, EvT t (O.set k (p, lk od o)) te R) : EvT t O (tLockE te) R := fun s G H T ro sb Q q => by
  obtain ⟨o, h1, h2⟩ := ro _ (List.mem_of_getElem? hO)
  have hmu := ok_mut h2 hm
  refine ⟨p, o, h1, hmu, fun od => ?_⟩
  obtain ⟨hd, hl⟩ := hlk od o G h2
  have sb2 : Sub G (upd H p (.frz od o)) := fun a w ha => by
    by_cases e : a = p
    · subst e
      rcases sb _ w ha with z | ⟨_, od', z⟩
      · rw [h1] at z; cases z; exact .inr ⟨hd, od, upd_same⟩
      · rw [h1] at z; cases z; exact hmu.elim
    · rw [upd_ne e]; exact sb a w ha
  refine h od o s G _ T (ro.set nd hO hl) sb2 _ fun v G' H' st hv => ?_
  have hp' : H' p = some (.frz od o) := st.ex p _ upd_same
  refine ⟨hp', q v G' _ ?_ hv⟩
  have hg : G' p = G p := st.old p (.frz upd_same)
  refine Step.of st.gg (fun a w ha => ?_) (fun a w ha => ?_) (fun a ha => ?_)
  · by_cases e : a = p
    · subst e
      rw [hg] at ha
      rcases sb _ w ha with z | ⟨_, od', z⟩
      · rw [h1] at z; cases z; exact .inl upd_same
      · rw [h1] at z; cases z; exact hmu.elim
    · rw [upd_ne e]; exact st.sub a w ha
  · by_cases e : a = p
    · subst e; rw [h1] at ha; cases ha; exact upd_same
    · rw [upd_ne e]; exact st.ex a w (by rw [upd_ne e]; exact ha)
  · by_cases e : a = p
    · rw [e]; exact hg
    · exact st.old a ⟨by rw [upd_ne e]; exact ha.1, fun vs => by rw [upd_ne e]; exact ha.2 vs⟩
def lkTof (r : List (List Key × Rp)) (od : Obj) : HO → OC
  | .dT l => .lkT od l r
  | _ => .lkT od [] r
def lkKof (r : List (Key × Rp)) (od : Obj) : HO → OC
  | .dK l => .lkK od l r
  | _ => .lkK od [] r
theorem ev_lockT {r : List (List Key × Rp)} (nd : (O.map (·.1)).Nodup) (hO : O[k]? = some (p, .dT r)) (h : ∀ od l, EvT t (O.set k (p, .lkT od l r)) te R) : EvT t O (tLockE te) R :=
  ev_lock (u := .dT []) nd hO rfl (lkTof r) (fun od o G hc => by cases o <;> first | exact hc.elim | exact ⟨rfl, ⟨rfl, rfl⟩, hc⟩) fun od o => by
    cases o <;> exact h _ _
theorem ev_lockK {r : List (Key × Rp)} (nd : (O.map (·.1)).Nodup) (hO : O[k]? = some (p, .dK r)) (h : ∀ od l, EvT t (O.set k (p, .lkK od l r)) te R) : EvT t O (tLockE te) R :=
  ev_lock (u := .dK []) nd hO rfl (lkKof r) (fun od o G hc => by cases o <;> first | exact hc.elim | exact ⟨rfl, ⟨rfl, rfl⟩, hc⟩) fun od o => by
    cases o <;> exact h _ _
/-- statements that run while a dict that is only read is locked -/
theorem ht_lockT {r : List (List Key × Rp)} (hO : O[k]? = some (p, .dT r)) (hw : p ∉ W) (hy : p ∉ Y)
    (h : ∀ od l, HT Y t (O.set k (p, .lkT od l r)) W ts (fun t' O' W' => O'[k]? = some (p, .lkT od l r) ∧ Nx t' (O'.set k (p, .dT r)) W') (fun _ _ _ => False)) : HT Y t O W (tLock ts) Nx Rt := fun b s H ⟨G, a⟩ D n rr => by
  obtain ⟨o, h1, h2⟩ := a.ro _ (List.mem_of_getElem? hO)
  have h1 : H p = some o := h1
  cases o with
  | dT l =>
    refine ⟨p, _, h1, trivial, fun od => ?_⟩
    let b2 : Bs := ⟨fun x => if x = p then G p else b.G x, upd b.H p (.frz od (.dT l)), b.X⟩
    have bg : ∀ {x}, x ≠ p → b2.G x = b.G x := fun e => if_neg e
    have bgp : b2.G p = G p := if_pos rfl
    have sb2 : Sub G (upd H p (.frz od (.dT l))) := fun x w hx => by
      by_cases e : x = p
      · subst e
        rcases a.sub _ w hx with z | ⟨_, od', z⟩
        · rw [h1] at z; cases z; exact .inr ⟨rfl, od, upd_same⟩
        · rw [h1] at z; cases z
      · rw [upd_ne e]; exact a.sub x w hx
    have ntH : ∀ {F : Hp} {x}, x ≠ p → NT (upd F p (.frz od (.dT l))) x → NT F x := fun e n => ⟨by have := n.1; rwa [upd_ne e] at this, fun vs => by have := n.2 vs; rwa [upd_ne e] at this⟩
    have ntU : ∀ {F : Hp} {x} {u : HO}, x ≠ p → NT F x → NT (upd F p u) x := fun e n => ⟨by rw [upd_ne e]; exact n.1, fun vs => by rw [upd_ne e]; exact n.2 vs⟩
    have a2 : AtG Y b2 t (O.set k (p, .lkT od l r)) W s (upd H p (.frz od (.dT l))) G := by
      refine ⟨a.ty, a.ro.set a.nd hO ⟨⟨rfl, rfl⟩, h2⟩, ⟨fun x u hx => ?_, sb2, fun x u hx nx => ?_, fun x hx => ?_, fun x hx => ?_, fun x hx => ?_, fun x vs hx => ?_⟩, fun q hq => ?_, fun q hq => ?_, by rw [set_keys hO]; exact a.nd⟩
      · by_cases e : x = p
        · subst e; rw [bgp] at hx; exact hx
        · rw [bg e] at hx; exact a.st.gg x u hx
      · by_cases e : x = p
        · subst e
          have : some (HO.frz od (.dT l)) = some u := (upd_same (H := b.H) (o := .frz od (.dT l))).symm.trans hx
          rw [← this]; exact upd_same
        · have hx : b.H x = some u := by rw [← hx]; exact (upd_ne e).symm
          rw [upd_ne e]; exact a.st.hh x u hx nx
      · by_cases e : x = p
        · rw [e, upd_same]; simp
        · rw [upd_ne e]; exact a.st.all x (by have : upd b.H p (.frz od (.dT l)) x ≠ none := hx; rwa [upd_ne e] at this)
      · by_cases e : x = p
        · rw [e]; exact bgp.symm
        · rw [bg e]; exact a.st.old x (ntH e hx)
      · by_cases e : x = p
        · rw [e]; exact .frz upd_same
        · exact ntU e (a.st.nt x (ntH e hx))
      · have e : x ≠ p := fun e => by
          subst e
          have : some (HO.frz od (.dT l)) = some (.tup vs) := (upd_same (H := b.H) (o := .frz od (.dT l))).symm.trans hx
          cases this
        have hx : b.H x = some (.tup vs) := by rw [← hx]; exact (upd_ne e).symm
        rw [upd_ne e]; exact a.st.tt x vs hx
      · obtain ⟨g1, ⟨u, g2, g3⟩, g4⟩ := a.w q hq
        have e : q ≠ p := fun e => hw (by rw [← e]; exact hq)
        exact ⟨g1, ⟨u, by rw [upd_ne e]; exact g2, g3⟩, (upd_ne e).trans g4⟩
      · obtain ⟨g1, ⟨u, g2, g3⟩, g4, g5⟩ := a.y q hq
        have e : q ≠ p := fun e => hy (by rw [← e]; exact hq)
        exact ⟨g1, ⟨u, by rw [upd_ne e]; exact g2, g3⟩, g4, fun z => g5 ((upd_ne e).symm.trans z)⟩
    refine h od l b2 s _ ⟨G, a2⟩ _ (fun t' O' W' s' H' ⟨hk, hn⟩ ⟨G', a'⟩ => ?_) fun _ _ _ _ _ _ z => z.elim
    obtain ⟨o', h3, h4⟩ := a'.ro _ (List.mem_of_getElem? hk)
    have h3 : H' p = some o' := h3
    have e3 : o' = .frz od (.dT l) ∧ AllK l r G' := by
      cases o' with
      | frz od' w =>
        cases w with
        | dT l' => exact ⟨by rw [h4.1.1, h4.1.2], by rw [h4.1.2]; exact h4.2⟩
        | _ => exact h4.elim
      | _ => exact h4.elim
    obtain ⟨rfl, hall⟩ := e3
    refine ⟨h3, n _ _ _ _ _ hn ⟨G', ?_⟩⟩
    have gp : G' p = G p := (a'.st.old p (NT.frz (show b2.H p = some (.frz od (.dT l)) from upd_same))).trans bgp
    refine ⟨a'.ty, a'.ro.set a'.nd hk hall, ⟨fun x u hx => ?_, fun x u hx => ?_, fun x u hx nx => ?_, fun x hx => ?_, fun x hx => ?_, fun x hx => ?_, fun x vs hx => ?_⟩, fun q hq => ?_, fun q hq => ?_, by rw [set_keys hk]; exact a'.nd⟩
    · by_cases e : x = p
      · subst e; rw [gp]; exact a.st.gg _ u hx
      · exact a'.st.gg x u (by rw [bg e]; exact hx)
    · by_cases e : x = p
      · subst e
        rw [gp] at hx
        rcases a.sub _ u hx with z | ⟨_, od', z⟩
        · rw [h1] at z; cases z; exact .inl upd_same
        · rw [h1] at z; cases z
      · rw [upd_ne e]; exact a'.sub x u hx
    · by_cases e : x = p
      · subst e
        have := a.st.hh _ u hx nx
        rw [h1] at this; rw [← this]; exact upd_same
      · rw [upd_ne e]; exact a'.st.hh x u ((upd_ne e).trans hx) nx
    · by_cases e : x = p
      · rw [e, upd_same]; simp
      · rw [upd_ne e]; exact a'.st.all x (fun z => hx ((upd_ne e).symm.trans z))
    · by_cases e : x = p
      · subst e; rw [gp]; exact a.st.old _ hx
      · rw [a'.st.old x (show NT (upd b.H p _) x from ntU e hx), bg e]
    · by_cases e : x = p
      · rw [e]; exact .mut upd_same trivial
      · exact ntU e (a'.st.nt x (show NT (upd b.H p _) x from ntU e hx))
    · have e : x ≠ p := fun e => by
        subst e
        have := a.st.tt _ vs hx
        rw [h1] at this; cases this
      rw [upd_ne e]; exact a'.st.tt x vs ((upd_ne e).trans hx)
    · obtain ⟨g1, ⟨u, g2, g3⟩, g4⟩ := a'.w q hq
      have e : q ≠ p := fun e => by
        subst e
        rw [h3] at g2; cases g2; exact g3
      exact ⟨g1, ⟨u, by rw [upd_ne e]; exact g2, g3⟩, (upd_ne e).symm.trans g4⟩
    · obtain ⟨g1, ⟨u, g2, g3⟩, g4, g5⟩ := a'.y q hq
      have e : q ≠ p := fun e => hy (by rw [← e]; exact hq)
      exact ⟨g1, ⟨u, by rw [upd_ne e]; exact g2, g3⟩, g4, fun z => g5 ((upd_ne e).trans z)⟩
  | _ => exact h2.elim

/-! ### walks of locked dicts -/
theorem src_keysT {r : List (List Key × Rp)} {od : Obj} {l : List (List Key × V)} (h : EvT t O td (rRef p)) (hm : (p, OC.lkT od l r) ∈ O) : SrcW [(p, .lkT od l r)] t O (iKeys td) (r.map fun e => rKT e.1) := fun s G H T ro sb Rk q => h s G H T ro sb _ fun v G1 H1 st hv => by
  have hv : v = .ref p := hv
  subst hv
  have at_ : ∀ {G2 H2 : Hp}, RO [(p, OC.lkT od l r)] G2 H2 → H2 p = some (.frz od (.dT l)) ∧ AllK l r G2 := fun ro2 => by
    obtain ⟨o, h1, h2⟩ := ro2 _ (List.mem_singleton.mpr rfl)
    have h1 : _ = some o := h1
    cases o with
    | frz od' w =>
      cases w with
      | dT l' =>
        obtain ⟨⟨e1, e2⟩, h3⟩ := h2
        subst e1 e2
        exact ⟨h1, h3⟩
      | _ => exact h2.elim
    | _ => exact h2.elim
  obtain ⟨hp, ha⟩ := at_ (fun e he => (ro.step st.gg st.ex) e (by rw [List.mem_singleton.mp he]; exact hm))
  refine ⟨p, od, rfl, .inr ⟨l, hp, q _ G1 H1 st ⟨fun i H2 G2 hi e s2 ro2 => ?_, fun H2 G2 e s2 ro2 => ?_, fun i H2 G2 x H3 R hR e s2 ro2 y => ?_⟩⟩⟩
  · refine ⟨(at_ ro2).1, ?_⟩
    rw [ha.length]; simpa using hi
  · refine ⟨(at_ ro2).1, ?_⟩
    rw [ha.length]; simp
  · obtain ⟨rfl, kk, v, c, hkv, rfl, hc⟩ := y
    have ek : (r.map (·.1))[i]? = some kk := by rw [← ha.keys, List.getElem?_map, hkv]; rfl
    rw [List.getElem?_map] at hR ek
    cases hri : r[i]? with
    | none => rw [hri] at hR; cases hR
    | some e0 =>
      rw [hri] at hR ek
      have e1 : rKT e0.1 = R := Option.some.inj hR
      have e2 : e0.1 = kk := Option.some.inj ek
      rw [← e1, e2]
      exact ⟨_, Step.learn s2 hc, c, _, rfl, upd_same, All2.of_eqs (f := kV) kk⟩
theorem src_itemsK {r : List (Key × Rp)} {od : Obj} {l : List (Key × V)} (h : EvT t O td (rRef p)) (hm : (p, OC.lkK od l r) ∈ O) : SrcW [(p, .lkK od l r)] t O (iItems td) (r.map fun e => rTup [rKey e.1, e.2]) := fun s G H T ro sb Rk q => h s G H T ro sb _ fun v G1 H1 st hv => by
  have hv : v = .ref p := hv
  subst hv
  have at_ : ∀ {G2 H2 : Hp}, RO [(p, OC.lkK od l r)] G2 H2 → H2 p = some (.frz od (.dK l)) ∧ AllK l r G2 := fun ro2 => by
    obtain ⟨o, h1, h2⟩ := ro2 _ (List.mem_singleton.mpr rfl)
    have h1 : _ = some o := h1
    cases o with
    | frz od' w =>
      cases w with
      | dK l' =>
        obtain ⟨⟨e1, e2⟩, h3⟩ := h2
        subst e1 e2
        exact ⟨h1, h3⟩
      | _ => exact h2.elim
    | _ => exact h2.elim
  obtain ⟨hp, ha⟩ := at_ (fun e he => (ro.step st.gg st.ex) e (by rw [List.mem_singleton.mp he]; exact hm))
  have getR : ∀ {l : List (Key × V)} {r : List (Key × Rp)} {G : Hp} {i : Nat} {kk : Key} {v : V}, AllK l r G → l[i]? = some (kk, v) → ∃ R, r[i]? = some (kk, R) ∧ R.p v G := by
    intro l
    induction l with
    | nil => intro r G i kk v _ e; simp at e
    | cons x l ih =>
      intro r G i kk v ha e
      match r, ha with
      | y :: r, ha =>
        cases i with
        | zero =>
          have e : x = (kk, v) := Option.some.inj e
          subst e
          exact ⟨y.2, by rw [show kk = y.1 from ha.1.1]; rfl, ha.1.2⟩
        | succ i => exact ih (r := r) ha.2 (by simpa using e)
  refine ⟨p, od, l, rfl, hp, q _ G1 H1 st ⟨fun i H2 G2 hi e s2 ro2 => ?_, fun H2 G2 e s2 ro2 => ?_, fun i H2 G2 x H3 R hR e s2 ro2 y => ?_⟩⟩
  · refine ⟨(at_ ro2).1, ?_⟩
    rw [ha.length]; simpa using hi
  · refine ⟨(at_ ro2).1, ?_⟩
    rw [ha.length]; simp
  · obtain ⟨T1, kk, v, hkv, rfl, hT, rfl⟩ := y
    obtain ⟨Rv, hr, hv⟩ := getR (at_ ro2).2 hkv
    rw [List.getElem?_map, hr] at hR
    have e1 : rTup [rKey kk, Rv] = R := Option.some.inj hR
    rw [← e1]
    exact ⟨_, Step.new s2 hT, T1, _, rfl, upd_same, rfl, Rv.mono _ _ _ (Ex.new (s2.none hT)) hv, trivial⟩
end
end Rz
set_option Elab.async false
set_option linter.all false
set_option maxRecDepth 100000
set_option maxHeartbeats 4000000
/-! Rz15: changes of lists, fields of a new object, making an object, several new objects at once, setdefault. Own work. -/
namespace Rz
open PySem PySem.Spec L2
section
variable {K : PySem.W.Frag} {Y : List Addr} {t : Tys} {O : Os} {W : List Addr} {te ta tb td ty tv th to ti : TE} {tr tk : TA} {ts tu tz : TS} {R Ra Rb : Rp} {Rs : List Rp} {Nx : Nxt} {Rt : Rts} {p q : Addr} {k j : Nat} {c c' : OC} {b : Bs} {s : St} {G H : Hp} {Q : VK}

/-! ### one value after another -/
theorem atN (h : EvN t O te c) (hm : c.may = true) (a : AtG Y b t O W s H G) (q : ∀ p G' H', AtG Y b t ((p, c) :: O) (p :: W) s H' G' → Ex G G' → Q (.ref p) H') : te s H Q :=
  h s G H a.ty a.ro a.sub _ fun p o G' H' st hp hg ho hc => q p G' H' (a.own st hp hg ho hc hm) st.gg
theorem atT (h : EvT t O te R) (a : AtG Y b t O W s H G) (q : ∀ v G' H', AtG Y b t O W s H' G' → Ex G G' → R.p v G' → Q v H') : te s H Q :=
  h s G H a.ty a.ro a.sub _ fun v G' H' st hv => q v G' H' (a.step st) st.gg hv
/-- i, j = a new object, e -/
theorem hs_parNT {i j : Nat} (h1 : EvN t O ta c) (h2 : ∀ p, EvT t ((p, c) :: O) tb R) (hm : c.may = true := by rfl) (kk : ∀ p, HT Y ((t.set i (some (rRef p))).set j (some R)) ((p, c) :: O) (p :: W) tz Nx Rt) : HT Y t O W (tSeq (tPar i j (tCons ta (tCons tb tNil))) tz) Nx Rt := fun b s H ⟨G, a⟩ D n r =>
  atN h1 hm a fun p G1 H1 a1 e1 => atT (h2 p) a1 fun v G2 H2 a2 e2 hv => ⟨.ref p, v, rfl, kk p b _ _ ⟨G2, (a2.setTy (R := rRef p) rfl).setTy hv⟩ D n r⟩
theorem hs_parTN {β : Type} {P : β → Prop} {Rb : β → Rp} {i j : Nat} (h1 : EvT t O ta (rEx P Rb)) (h2 : EvN t O tb c) (hm : c.may = true := by rfl) (kk : ∀ z p, P z → HT Y ((t.set i (some (Rb z))).set j (some (rRef p))) ((p, c) :: O) (p :: W) tz Nx Rt) : HT Y t O W (tSeq (tPar i j (tCons ta (tCons tb tNil))) tz) Nx Rt := fun b s H ⟨G, a⟩ D n r =>
  atT h1 a fun v G1 H1 a1 e1 ⟨z, hz, hv⟩ => atN h2 hm a1 fun p G2 H2 a2 e2 => ⟨v, .ref p, rfl, kk z p hz b _ _ ⟨G2, (a2.setTy ((Rb z).mono _ _ _ e2 hv)).setTy (R := rRef p) rfl⟩ D n r⟩
theorem hs_parNN {i j : Nat} (h1 : EvN t O ta c) (h2 : ∀ p, EvN t ((p, c) :: O) tb c') (hm : c.may = true := by rfl) (hm2 : c'.may = true := by rfl) (kk : ∀ p q, HT Y ((t.set i (some (rRef p))).set j (some (rRef q))) ((q, c') :: (p, c) :: O) (q :: p :: W) tz Nx Rt) : HT Y t O W (tSeq (tPar i j (tCons ta (tCons tb tNil))) tz) Nx Rt := fun b s H ⟨G, a⟩ D n r =>
  atN h1 hm a fun p G1 H1 a1 e1 => atN (h2 p) hm2 a1 fun q G2 H2 a2 e2 => ⟨.ref p, .ref q, rfl, kk p q b _ _ ⟨G2, (a2.setTy (R := rRef p) rfl).setTy (R := rRef q) rfl⟩ D n r⟩
theorem hs_par3NNT {i j l : Nat} {tc : TE} (h1 : EvN t O ta c) (h2 : ∀ p, EvN t ((p, c) :: O) tb c') (h3 : ∀ p q, EvT t ((q, c') :: (p, c) :: O) tc R) (hm : c.may = true := by rfl) (hm2 : c'.may = true := by rfl)
    (kk : ∀ p q, HT Y (((t.set i (some (rRef p))).set j (some (rRef q))).set l (some R)) ((q, c') :: (p, c) :: O) (q :: p :: W) tz Nx Rt) : HT Y t O W (tSeq (tPar3 i j l (tCons ta (tCons tb (tCons tc tNil)))) tz) Nx Rt := fun b s H ⟨G, a⟩ D n r =>
  atN h1 hm a fun p G1 H1 a1 e1 => atN (h2 p) hm2 a1 fun q G2 H2 a2 e2 => atT (h3 p q) a2 fun v G3 H3 a3 e3 hv => ⟨.ref p, .ref q, v, rfl, kk p q b _ _ ⟨G3, ((a3.setTy (R := rRef p) rfl).setTy (R := rRef q) rfl).setTy hv⟩ D n r⟩
/-- list(x) gives a new list -/
theorem en_listT (h : EvT t O te (rTup Rs)) : EvN t O (tCB (fun xs H Q => ∃ p ys, xs = [.ref p] ∧ (SqL K H p ys ∨ SqT K H p ys) ∧ ∀ l, H l = none → Q (.ref l) (upd H l (.lst ys))) (tCons te tNil)) (.lst Rs) := fun s G H T o sb Q q => h s G H T o sb _ fun v G1 H1 s1 hv => by
  obtain ⟨a, ys, rfl, ha, h2⟩ := hv
  refine ⟨a, ys, rfl, .inr (s1.sub.tup ha), fun l hl => q l _ G1 _ (s1.trans (Step.newH s1.sub hl)) ?_ (s1.sub.none hl) upd_same h2⟩
  cases z : H l with
  | none => rfl
  | some u => rw [s1.ex l u z] at hl; cases hl
theorem en_listL (h : EvT t O te (rLst Rs)) : EvN t O (tCB (fun xs H Q => ∃ p ys, xs = [.ref p] ∧ (SqL K H p ys ∨ SqT K H p ys) ∧ ∀ l, H l = none → Q (.ref l) (upd H l (.lst ys))) (tCons te tNil)) (.lst Rs) := fun s G H T o sb Q q => h s G H T o sb _ fun v G1 H1 s1 hv => by
  obtain ⟨a, ys, rfl, ha, h2⟩ := hv
  refine ⟨a, ys, rfl, .inl (s1.sub.lst ha), fun l hl => q l _ G1 _ (s1.trans (Step.newH s1.sub hl)) ?_ (s1.sub.none hl) upd_same h2⟩
  cases z : H l with
  | none => rfl
  | some u => rw [s1.ex l u z] at hl; cases hl
/-- a new object, whichever way a test goes -/
theorem en_if {tt : TT} {cc : Bool} (hc : EvB t O tt cc) (h1 : cc = true → EvN t O ta c) (h2 : cc = false → EvN t O tb c) : EvN t O (tIf tt ta tb) c := fun s G H T o sb Q q => hc s G H T o sb _ fun G1 H1 s1 => by
  have key : ∀ {te : TE}, EvN t O te c → te s H1 Q := fun h => h s G1 H1 (T.mono s1.gg) (o.step s1.gg s1.ex) s1.sub _ fun p u G' H' st hp => q p u G' H' (s1.trans st) (by
    cases z : H p with
    | none => rfl
    | some u => rw [s1.ex p u z] at hp; cases hp)
  cases cc with
  | true => exact iteT (key (h1 rfl))
  | false => exact iteF (key (h2 rfl))

/-! ### changes of lists -/
/-- xs[i] = e -/
theorem ht_lset {i : Int} {m : Nat} (hv : EvT t O te R) (ho : EvT t O to (rRef p)) (hi : EvT t O ti (rInt i)) (hO : O[k]? = some (p, .lst Rs)) (hw : p ∈ W ∨ p ∈ Y) (e : i = (m : Int)) (hl : m < Rs.length) (h : Nx t (O.set k (p, .lst (Rs.set m R))) W) : HT Y t O W (tAsg te (gSub to ti rSetL)) Nx Rt := fun b s H ⟨G, a⟩ D n rr =>
  atT hv a fun v G1 H1 a1 e1 hv1 => atT ho a1 fun x G2 H2 a2 e2 hx => atT hi a2 fun y G3 H3 a3 e3 hy => by
    have hx : x = .ref p := hx
    have hy : y = .int i := hy
    subst hx hy
    obtain ⟨vs, h1, h2⟩ := a3.ro.lst (List.mem_of_getElem? hO)
    refine ⟨p, vs, i, m, rfl, rfl, h1, ?_, ?_⟩
    · unfold ixN
      have : m < vs.length := by rw [h2.length]; exact hl
      rw [if_pos (by omega), if_pos (by omega), e]; rfl
    · exact n _ _ _ _ _ h ⟨G3, a3.put hO hw h1 (h2.set m (R.mono _ _ _ (e2.trans e3) hv1)) rfl⟩
/-- xs.insert(0, e) -/
theorem ht_insert0 (ho : EvT t O ta (rRef p)) (he : EvT t O te R) (hO : O[k]? = some (p, .lst Rs)) (hw : p ∈ W ∨ p ∈ Y) (hl : Rs.length < sizeLine) (h : Nx t (O.set k (p, .lst (R :: Rs))) W) :
    HT Y t O W (tDrop (tBM K "list" (fun x vs H Q => ∃ (l : Addr) (xs : List V) (i : Int) (y : V), x = .ref l ∧ vs = [.int i, y] ∧ H l = some (.lst xs) ∧ xs.length < sizeLine ∧ 0 ≤ i ∧ i < 2 ^ 63 ∧ Q .non (upd H l (.lst (xs.take i.toNat ++ [y] ++ xs.drop i.toNat)))) ta (tCons (tC (.int 0)) (tCons te tNil)))) Nx Rt := fun b s H ⟨G, a⟩ D n rr =>
  atT (te := ta) ho a fun x G1 H1 a1 e1 hx => by
    have hx : x = .ref p := hx
    subst hx
    obtain ⟨vs0, h0, _⟩ := a1.ro.lst (List.mem_of_getElem? hO)
    refine ⟨.inl ⟨rfl, _, SqL.of h0⟩, ?_⟩
    refine atT (te := te) he a1 fun v G2 H2 a2 e2 hv => ?_
    obtain ⟨vs, h1, h2⟩ := a2.ro.lst (List.mem_of_getElem? hO)
    refine ⟨p, vs, 0, v, rfl, rfl, h1, by rw [h2.length]; exact hl, by decide, by decide, ?_⟩
    exact n _ _ _ _ _ h ⟨G2, a2.put hO hw h1 (show All2 (([] : List V) ++ [v] ++ vs) (R :: Rs) G2 from ⟨hv, h2⟩) rfl⟩
/-- xs.append(ys.pop(i)), i told by a reading that may change one list and keeps its shape -/
theorem ht_appPop {z : Addr} {cz : OC} {kz : Nat} {Ps : List Rp} {m : Nat} (hx : EvT t O ta (rRef p)) (hy : EvT t O tb (rRef q)) (hi : EvZ z cz t O ti (rEx (fun d : Int => 0 ≤ d ∧ d < m) fun d => rInt d)) (hP : O[k]? = some (p, .lst Rs)) (hQ : O[j]? = some (q, .lst Ps)) (hZ : O[kz]? = some (z, cz)) (hzm : cz.may = true) (hzy : z ∈ Y)
    (hpw : p ∈ W) (hqw : q ∈ W) (hkj : k ≠ j) (hl : Rs.length < sizeLine) (hm : m = Ps.length) (hm2 : m < 2 ^ 62) (h : ∀ i (hi : i < Ps.length), Nx t ((O.set j (q, .lst (Ps.eraseIdx i))).set k (p, .lst (Rs ++ [Ps[i]]))) W) :
    HT Y t O W (tDrop (tBM K "list" rAppend ta (tCons (tBM K "list" rPopAt tb (tCons ti tNil)) tNil))) Nx Rt := fun b s H ⟨G, a⟩ D n rr =>
  atT (te := ta) hx a fun x G1 H1 a1 e1 ex => by
    have ex : x = .ref p := ex
    subst ex
    obtain ⟨vs0, h0, _⟩ := a1.ro.lst (List.mem_of_getElem? hP)
    refine ⟨.inl ⟨rfl, _, SqL.of h0⟩, ?_⟩
    refine atT (te := tb) hy a1 fun y G2 H2 a2 e2 ey => ?_
    have ey : y = .ref q := ey
    subst ey
    obtain ⟨ws0, g0, _⟩ := a2.ro.lst (List.mem_of_getElem? hQ)
    refine ⟨.inl ⟨rfl, _, SqL.of g0⟩, ?_⟩
    refine hi (a2.box hZ hzm) s G2 H2 a2.ty a2.ro a2.sub (a2.y z hzy).1 _ fun w G3 H3 st ro hw => ?_
    obtain ⟨d, ⟨hd0, hd1⟩, ew⟩ := hw
    have ew : w = .int d := ew
    subst ew
    have a3 := a2.stepZ hzy (a2.box hZ hzm) st ro
    obtain ⟨ws, g1, g2⟩ := a3.ro.lst (List.mem_of_getElem? hQ)
    have hlt : d.toNat < Ps.length := by omega
    have hlw : d.toNat < ws.length := by rw [g2.length]; exact hlt
    refine ⟨q, ws, d, d.toNat, ws[d.toNat], rfl, rfl, g1, by omega, by omega, ?_, by simp, ?_⟩
    · have hwl : (d : Int) < ws.length := by omega
      refine (ixN_seq (show ixN ws.length d = some d.toNat from ?_)).1
      unfold ixN
      rw [if_pos hd0, if_pos hwl]
    · have a4 := a3.put hQ (.inl hqw) g1 (c := .lst (Ps.eraseIdx d.toNat)) (u := .lst (ws.eraseIdx d.toNat)) (g2.erase d.toNat) rfl
      have hP' : (O.set j (q, .lst (Ps.eraseIdx d.toNat)))[k]? = some (p, .lst Rs) := by rw [List.getElem?_set_ne (Ne.symm hkj)]; exact hP
      obtain ⟨vs, h1, h2⟩ := a4.ro.lst (List.mem_of_getElem? hP')
      refine ⟨p, vs, _, rfl, rfl, h1, by rw [h2.length]; exact hl, ?_⟩
      obtain ⟨Rv, hr1, hr2⟩ := g2.getV (i := d.toNat) (v := ws[d.toNat]) (by simp)
      have hr3 : Rv = Ps[d.toNat] := by
        rw [List.getElem?_eq_getElem hlt] at hr1
        exact (Option.some.inj hr1).symm
      subst hr3
      exact n _ _ _ _ _ (h d.toNat hlt) ⟨G3, a4.put hP' (.inl hpw) h1 (h2.snoc hr2) rfl⟩

/-! ### unpacking a list -/
theorem tg_unl {n : Nat} {u : TGs} {t1 : Tys} {us : List Nat} (h : TgsT u Rs t t1 us) (hn : Rs.length = n := by rfl) : TgT (gUnl K n u) (rLst Rs) t t1 us := fun v s G H hv T sb Q q => by
  obtain ⟨a, xs, rfl, ha, hx⟩ := hv
  exact ⟨a, xs, rfl, sb.lst ha, hx.length.trans hn, h xs s G H hx T sb Q q⟩
theorem tg_unl2 {i j : Nat} : TgT (gUnl K 2 (gCons (gName i) (gCons (gName j) gNil))) (rLst [Ra, Rb]) t ((t.set i (some Ra)).set j (some Rb)) [i, j] := tg_unl (tgs_cons tg_name (tgs_cons tg_name tgs_nil))
/-- targets = e -/
theorem hs_asg {g : TG} {t1 : Tys} {us : List Nat} (h : EvT t O te R) (hg : TgT g R t t1 us) (kk : HT Y t1 O W tz Nx Rt) : HT Y t O W (tSeq (tAsg te g) tz) Nx Rt := fun b s H ⟨G, a⟩ D n r =>
  atT h a fun v G1 H1 a1 e1 hv => hg v s G1 H1 hv a1.ty a1.sub _ fun s' T' _ => kk b s' H1 ⟨G1, T', a1.ro, a1.st, a1.w, a1.y, a1.nd⟩ D n r
theorem hs_asgZE {β : Type} {P : β → Prop} {Rb : β → Rp} {g : TG} {t1 : β → Tys} {us : List Nat} (h : EvZ p c t O te (rEx P Rb)) (hk : O[k]? = some (p, c)) (hy : p ∈ Y) (hm : c.may = true := by rfl) (hg : ∀ z, P z → TgT g (Rb z) t (t1 z) us) (kk : ∀ z, P z → HT Y (t1 z) O W tz Nx Rt) : HT Y t O W (tSeq (tAsg te g) tz) Nx Rt := fun b s H ⟨G, a⟩ D n r =>
  h (a.box hk hm) s G H a.ty a.ro a.sub (a.y p hy).1 _ fun v G' H' st ro ⟨z, hz, hv⟩ => by
    have a' := a.stepZ hy (a.box hk hm) st ro
    exact hg z hz v s G' H' hv a'.ty a'.sub _ fun s' T' _ => kk z hz b s' H' ⟨G', T', a'.ro, a'.st, a'.w, a'.y, a'.nd⟩ D n r

/-! ### fields -/
def putR (f : Str) (R : Rp) : List (Str × Rp) → List (Str × Rp)
  | [] => [(f, R)]
  | (g, x) :: r => if g = f then (g, R) :: r else (g, x) :: putR f R r
theorem AllK.putF : ∀ {l : List (Str × V)} {r : List (Str × Rp)} {G : Hp} {f : Str} {v : V} {R : Rp}, AllK l r G → R.p v G → AllK (L2.putF f v l) (putR f R r) G
  | [], [], _, _, _, _, _, hv => ⟨⟨rfl, hv⟩, trivial⟩
  | (g, x) :: l, (g', S) :: r, G, f, v, R, h, hv => by
    have e : g = g' := h.1.1
    subst e
    show AllK (if g = f then (g, v) :: l else (g, x) :: L2.putF f v l) (if g = f then (g, R) :: r else (g, S) :: putR f R r) G
    by_cases hf : g = f
    · rw [if_pos hf, if_pos hf]; exact ⟨⟨rfl, hv⟩, h.2⟩
    · rw [if_neg hf, if_neg hf]; exact ⟨h.1, AllK.putF h.2 hv⟩
  | [], _ :: _, _, _, _, _, h, _ => h.elim
  | _ :: _, [], _, _, _, _, h, _ => h.elim
/-- o.f of an object as it is now -/
theorem ev_fldO {C dx : Addr} {f : Str} {fs : List (Str × Rp)} (ha : EvT t O ta (rRef p)) (hm : (p, OC.ins C dx fs) ∈ O) (hc : Cls K C) (hn : NoAttr K C f) (hl : fs.lookup f = some R) : EvT t O (tFld K ta f) R := fun s G H T o sb Q q =>
  ha s G H T o sb _ fun x G1 H1 s1 hx => by
    have hx : x = .ref p := hx
    subst hx
    obtain ⟨u, h1, h2⟩ := (o.step s1.gg s1.ex) _ hm
    cases u with
    | ins C' dx' l =>
      obtain ⟨rfl, rfl, h3⟩ := h2
      obtain ⟨v, h4, h5⟩ := h3.lookup hl
      exact ⟨p, C, dx, l, v, rfl, h1, hc, hn, h4, q v G1 H1 s1 h5⟩
    | _ => exact h2.elim
/-- o.f = e -/
theorem ht_fld {C dx : Addr} {f : Str} {fs : List (Str × Rp)} (hv : EvT t O tv R) (ha : EvT t O ta (rRef p)) (hO : O[k]? = some (p, .ins C dx fs)) (hw : p ∈ W ∨ p ∈ Y) (hc : Cls K C) (hn : NoAttr K C f) (hl : fs.length < 1000) (h : Nx t (O.set k (p, .ins C dx (putR f R fs))) W) :
    HT Y t O W (sFld K ta tv f) Nx Rt := fun b s H ⟨G, a⟩ D n rr =>
  atT hv a fun v G1 H1 a1 e1 hv1 => atT ha a1 fun x G2 H2 a2 e2 hx => by
    have hx : x = .ref p := hx
    subst hx
    obtain ⟨u, h1, h2⟩ := a2.ro _ (List.mem_of_getElem? hO)
    have h1 : H2 p = some u := h1
    cases u with
    | ins C' dx' l =>
      obtain ⟨rfl, rfl, h3⟩ := h2
      refine ⟨p, C, dx, l, rfl, h1, hc, hn, by rw [h3.length]; exact hl, ?_⟩
      exact n _ _ _ _ _ h ⟨G2, a2.put hO hw h1 (c := .ins C dx (putR f R fs)) (u := .ins C dx (L2.putF f v l)) ⟨rfl, rfl, h3.putF (R.mono _ _ _ e2 hv1)⟩ rfl⟩
    | _ => exact h2.elim
/-! ### making an object -/
/-- how __init__ is promised: self is new and bare -/
def PrmI {α : Type} (C : Addr) (Rs : α → List Rp) (pre : α → Prop) (fs : α → List (Str × Rp)) : Sp := PrmM (fun (x : α × Addr) p => rRef p :: Rs x.1) (fun x => .ins C x.2 []) (fun _ => []) (fun x => pre x.1) (fun x c => c = .ins C x.2 (fs x.1)) (fun _ => rNon)
theorem made {α : Type} {C : Addr} {Rs : α → List Rp} {pre : α → Prop} {fs : α → List (Str × Rp)} {vs : List V} {E : XK} (x : α) (hp : pre x) {G1 H1 : Hp} (sb : Sub G1 H1) (hv : All2 vs (Rs x) G1) (q : ∀ v G' H', Step [] G1 H1 G' H' → (rIns C (fs x)).p v G' → Q v H') {y dx : Addr} (hy : H1 y = none) (hdx : H1 dx = none) (ne : dx ≠ y) :
    PrmI C Rs pre fs (.ref y :: vs) (upd (upd H1 dx (.own y)) y (.ins C dx [])) (fun v H2 => v = .non ∧ Q (.ref y) H2) E := by
  have gy : G1 y = none := sb.none hy
  have up : ∀ {a o}, H1 a = some o → upd (upd H1 dx (.own y)) y (.ins C dx []) a = some o := fun {a o} h => by
    rw [upd_ne (ne_of_none h hy), upd_ne (ne_of_none h hdx)]; exact h
  refine ⟨(x, dx), G1, y, hp, ⟨rfl, hv⟩, fun e he => ?_, by simp, gy, fun a u ha => ?_, fun v G' H' c' hc st ro hr => ⟨hr, ?_⟩⟩
  · rw [List.mem_singleton.mp he]
    exact ⟨_, upd_same, rfl, rfl, trivial⟩
  · rcases sb a u ha with z | ⟨d, o, z⟩
    · exact .inl (up z)
    · exact .inr ⟨d, o, up z⟩
  · subst hc
    obtain ⟨u, h1, h2⟩ := ro (y, .ins C dx (fs x)) (by simp)
    have h1 : H' y = some u := h1
    have gy' : G' y = none := (st.old y (.mut upd_same trivial)).trans gy
    have e : Ex G' (upd G' y u) := Ex.new gy'
    refine q (.ref y) (upd G' y u) H' (Step.of (st.gg.trans e) (fun a w ha => ?_) (fun a w ha => ?_) fun a ha => ?_) ?_
    · by_cases ea : a = y
      · rw [ea, upd_same] at ha; cases ha; rw [ea]; exact .inl h1
      · rw [upd_ne ea] at ha; exact st.sub a w ha
    · exact st.hh a w (up ha) (by simpa using ne_of_none ha hy)
    · have ea : a ≠ y := fun z => ha.1 (by rw [z]; exact hy)
      have ed : a ≠ dx := fun z => ha.1 (by rw [z]; exact hdx)
      rw [upd_ne ea]
      exact st.old a ⟨by rw [upd_ne ea, upd_ne ed]; exact ha.1, fun vs => by rw [upd_ne ea, upd_ne ed]; exact ha.2 vs⟩
    · cases u with
      | ins C' dx' l =>
        obtain ⟨rfl, rfl, h3⟩ := h2
        exact ⟨y, dx, l, rfl, upd_same, h3.mono e⟩
      | _ => exact h2.elim
theorem ev_make {α : Type} {C : Addr} {Rs : α → List Rp} {pre : α → Prop} {fs : α → List (Str × Rp)} {E : XK} {dvs : List V} {Ra : List Rp} (x : α) (ha : EvA t O tr Ra) (hd : ∀ vs G, All2 vs Ra G → All2 (vs ++ dvs) (Rs x) G) (hp : pre x) : EvT t O (tMake C (PrmI C Rs pre fs) dvs E tr) (rIns C (fs x)) := fun s G H T o sb Q q =>
  ha s G H T o sb _ fun vs G1 H1 s1 hvs y dx hy hdx ne => made x hp s1.sub (hd vs G1 hvs) (fun v G' H' st hv => q v G' H' (s1.trans st) hv) hy hdx ne
theorem ez_make {α : Type} {C : Addr} {Rs : α → List Rp} {pre : α → Prop} {fs : α → List (Str × Rp)} {E : XK} {dvs : List V} {β : Type} {P : β → Prop} {Ra : β → List Rp} {z : Addr} {cz : OC} (f : β → α) (ha : BoxIn z cz O → ∀ s G H, Ty s t G → RO O G H → Sub G H → G z = none → ∀ Q : List V → Hp → Prop, (∀ vs b G' H', P b → Step [z] G H G' H' → RO O G' H' → All2 vs (Ra b) G' → Q vs H') → tr s H Q) (hd : ∀ vs b G, P b → All2 vs (Ra b) G → All2 (vs ++ dvs) (Rs (f b)) G) (hp : ∀ b, P b → pre (f b)) :
    EvZ z cz t O (tMake C (PrmI C Rs pre fs) dvs E tr) (rEx P fun b => rIns C (fs (f b))) := fun hb s G H T o sb hg Q q =>
  ha hb s G H T o sb hg _ fun vs b G1 H1 hP s1 o1 hvs y dx hy hdx ne => made (f b) (hp b hP) s1.sub (hd vs b G1 hP hvs) (fun v G' H' st hv => q v G' H' (s1.trans st.any) (o1.step st.gg st.ex) ⟨b, hP, hv⟩) hy hdx ne
theorem ev_makeK {α : Type} {C : Addr} {Rs : α → List Rp} {pre : α → Prop} {fs : α → List (Str × Rp)} {E : XK} {n m : Nat} {gV : List V → List V → List V} {Ra Rk : List Rp} (x : α) (ha : EvA t O tr Ra) (hk : EvA t O tk Rk) (hn : Ra.length = n) (hm : Rk.length = m)
    (hg : ∀ y vs zs G, All2 vs Ra G → All2 zs Rk G → ∃ us, gV (.ref y :: vs) zs = .ref y :: us ∧ All2 us (Rs x) G) (hp : pre x) : EvT t O (tMakeK C n m (PrmI C Rs pre fs) gV E tr tk) (rIns C (fs x)) := fun s G H T o sb Q q =>
  ha s G H T o sb _ fun vs G1 H1 s1 hvs => hk s G1 H1 (T.mono s1.gg) (o.step s1.gg s1.ex) s1.sub _ fun zs G2 H2 s2 hzs => by
    refine ⟨hvs.length.trans hn, hzs.length.trans hm, fun y dx hy hdx ne => ?_⟩
    obtain ⟨us, e, hus⟩ := hg y vs zs G2 (hvs.mono s2.gg) hzs
    rw [e]
    exact made x hp s2.sub hus (fun v G' H' st hv => q v G' H' ((s1.trans s2).trans st) hv) hy hdx ne

/-! ### d.setdefault(k, {})[j] = v, the dicts own ones -/
theorem ht_dsetd1 {r rq : List (Key × Rp)} {u w : Key} (hd : EvT t O td (rRef p)) (hu : EvT t O ta (rIs (kV u))) (hw : EvT t O tb (rIs (kV w))) (hv : EvT t O tv R) (hO : O[k]? = some (p, .dK r)) (hl : r.length < sizeLine) (hr : lk r u = some (rRef q)) (hQ : O[j]? = some (q, .dK rq)) (hq : q ∈ W ∨ q ∈ Y) (hlq : rq.length < sizeLine)
    (h : Nx t (O.set j (q, .dK (pk rq w R))) W) : HT Y t O W (sDPut (tDSetd td ta tDNewK) tb tv) Nx Rt := fun b s H ⟨G, a⟩ D n rr =>
  atT (te := tv) hv a fun v G1 H1 a1 e1 hv1 => atT (te := td) hd a1 fun x G2 H2 a2 e2 hx => by
    have hx : x = .ref p := hx
    subst hx
    obtain ⟨l0, hl0, _⟩ := a2.ro.dK (.inl (List.mem_of_getElem? hO))
    obtain ⟨o0, g0, g1⟩ := a2.ro _ (List.mem_of_getElem? hO)
    have g0 : H2 p = some o0 := g0
    refine ⟨p, rfl, ?_, ?_⟩
    · cases o0 with
      | dK l => exact .inl ⟨l, .inl g0⟩
      | _ => exact g1.elim
    · refine atT hu a2 fun y G3 H3 a3 e3 hy => ?_
      intro c hc
      have s4 : Step [] G3 H3 G3 (upd H3 c (.dK [])) := Step.newH a3.sub hc
      have a4 := a3.step s4
      obtain ⟨o, h1, h2⟩ := a4.ro _ (List.mem_of_getElem? hO)
      have h1 : upd H3 c (.dK []) p = some o := h1
      cases o with
      | dK l =>
        refine ⟨l, u, h1, hy, by rw [AllK.length h2]; exact hl, fun v1 hv1' => ?_, fun hn => ?_⟩
        · obtain ⟨v2, k1, k2⟩ := h2.lk.1 _ hr
          rw [hv1'] at k1; cases k1
          have k2 : v1 = .ref q := k2
          subst k2
          refine atT hw a4 fun y5 G5 H5 a5 e5 hy5 => ?_
          have hy5 : y5 = kV w := hy5
          subst hy5
          obtain ⟨o6, h6, h7⟩ := a5.ro _ (List.mem_of_getElem? hQ)
          have h6 : H5 q = some o6 := h6
          cases o6 with
          | dK lq =>
            refine ⟨q, _, rfl, .inl ⟨lq, w, h6, rfl, by rw [AllK.length h7]; exact hlq, rfl⟩, ?_⟩
            exact n _ _ _ _ _ h ⟨G5, a5.put hQ hq h6 (AllK.put h7 (R.mono _ _ _ (((e2.trans e3)).trans e5) hv1)) rfl⟩
          | _ => exact h7.elim
        · obtain ⟨v2, k1, _⟩ := h2.lk.1 _ hr
          rw [hn] at k1; cases k1
      | _ => exact h2.elim
theorem ht_dsetd2 {r : List (Key × Rp)} {u w : Key} (hd : EvT t O td (rRef p)) (hu : EvT t O ta (rIs (kV u))) (hw : ∀ (q : Addr) (c : OC), EvT t (((q, c) :: O).set (k + 1) (p, .dK (pk r u (rRef q)))) tb (rIs (kV w))) (hv : EvT t O tv R) (hO : O[k]? = some (p, .dK r)) (hp : p ∈ W ∨ p ∈ Y) (hl : r.length < sizeLine) (hr : lk r u = none)
    (h : ∀ q, Nx t ((q, .dK [(w, R)]) :: O.set k (p, .dK (pk r u (rRef q)))) (q :: W)) : HT Y t O W (sDPut (tDSetd td ta tDNewK) tb tv) Nx Rt := fun b s H ⟨G, a⟩ D n rr =>
  atT (te := tv) hv a fun v G1 H1 a1 e1 hv1 => atT (te := td) hd a1 fun x G2 H2 a2 e2 hx => by
    have hx : x = .ref p := hx
    subst hx
    obtain ⟨o0, g0, g1⟩ := a2.ro _ (List.mem_of_getElem? hO)
    have g0 : H2 p = some o0 := g0
    refine ⟨p, rfl, ?_, ?_⟩
    · cases o0 with
      | dK l => exact .inl ⟨l, .inl g0⟩
      | _ => exact g1.elim
    · refine atT hu a2 fun y G3 H3 a3 e3 hy => ?_
      intro c hc
      have a4 := a3.own (p := c) (o := .dK []) (c := .dK []) (Step.newH a3.sub hc) hc (a3.sub.none hc) upd_same trivial rfl
      have hO4 : ((c, OC.dK []) :: O)[k + 1]? = some (p, .dK r) := by simpa using hO
      obtain ⟨o, h1, h2⟩ := a4.ro _ (List.mem_of_getElem? hO4)
      have h1 : upd H3 c (.dK []) p = some o := h1
      cases o with
      | dK l =>
        refine ⟨l, u, h1, hy, by rw [AllK.length h2]; exact hl, fun v1 hv1' => ?_, fun hn => ?_⟩
        · rw [h2.lk.2 hr] at hv1'; cases hv1'
        · have hp4 : p ∈ c :: W ∨ p ∈ Y := hp.imp (fun z => List.mem_cons_of_mem _ z) id
          have a5 := a4.put hO4 hp4 h1 (c := .dK (pk r u (rRef c))) (u := .dK (putK l u (.ref c))) (AllK.put h2 (R := rRef c) rfl) rfl
          refine atT (hw c _) a5 fun y6 G6 H6 a6 e6 hy6 => ?_
          have hy6 : y6 = kV w := hy6
          subst hy6
          have hC : (((c, OC.dK []) :: O).set (k + 1) (p, .dK (pk r u (rRef c))))[0]? = some (c, .dK []) := by simp
          obtain ⟨o7, h7, h8⟩ := a6.ro _ (List.mem_of_getElem? hC)
          have h7 : H6 c = some o7 := h7
          cases o7 with
          | dK lq =>
            have e0 : lq = [] := by
              cases lq with
              | nil => rfl
              | cons _ _ => exact h8.elim
            subst e0
            refine ⟨c, _, rfl, .inl ⟨[], w, h7, rfl, by show 0 < sizeLine; decide, rfl⟩, ?_⟩
            have a8 := a6.put hC (.inl (by simp)) h7 (c := .dK [(w, R)]) (u := .dK (putK [] w v)) ⟨⟨rfl, R.mono _ _ _ ((e2.trans e3).trans e6) hv1⟩, trivial⟩ rfl
            exact n _ _ _ _ _ (h c) ⟨G6, by simpa using a8⟩
          | _ => exact h8.elim
      | _ => exact h2.elim
end
end Rz
set_option Elab.async false
set_option linter.all false
set_option maxRecDepth 100000
set_option maxHeartbeats 4000000
/-! Rz16: maps whose keys are ints, pairs of ints, tuples of ints. Own work. -/
namespace Rz
open PySem PySem.Spec L2
section
variable {κ μ α β : Type} [DecidableEq κ] [DecidableEq μ] {g : κ → μ} {f : α → β} {l : List (κ × α)} {k : κ} {a : α}
theorem lk_mapK (inj : ∀ x y, g x = g y → x = y) : lk (l.map fun e => (g e.1, f e.2)) (g k) = (lk l k).map f := by
  induction l with
  | nil => rfl
  | cons p l ih =>
    rw [List.map_cons, lk_cons, lk_cons]
    by_cases h : p.1 = k
    · rw [if_pos (by rw [h]), if_pos h]; rfl
    · rw [if_neg (fun e => h (inj _ _ e)), if_neg h]; exact ih
theorem pk_mapK (inj : ∀ x y, g x = g y → x = y) : pk (l.map fun e => (g e.1, f e.2)) (g k) (f a) = (pk l k a).map fun e => (g e.1, f e.2) := by
  have hk : g k ∈ (l.map fun e => (g e.1, f e.2)).map (·.1) ↔ k ∈ l.map (·.1) := by
    rw [List.map_map]
    constructor
    · intro h
      obtain ⟨e, h1, h2⟩ := List.mem_map.mp h
      exact List.mem_map.mpr ⟨e, h1, inj _ _ h2⟩
    · intro h
      obtain ⟨e, h1, h2⟩ := List.mem_map.mp h
      exact List.mem_map.mpr ⟨e, h1, congrArg g h2⟩
  by_cases h : k ∈ l.map (·.1)
  · rw [pk_in (hk.mpr h), pk_in h, List.map_map, List.map_map]
    apply List.map_congr_left
    intro e _
    show (if g e.1 = g k then (g e.1, f a) else (g e.1, f e.2)) = (fun e => (g e.1, f e.2)) (if e.1 = k then (e.1, a) else e)
    by_cases h2 : e.1 = k
    · rw [if_pos (by rw [h2]), if_pos h2]
    · rw [if_neg (fun z => h2 (inj _ _ z)), if_neg h2]
  · rw [pk_out (fun z => h (hk.mp z)), pk_out h, List.map_append]; rfl
end
/-! ### ints as keys, pairs as keys, tuples as keys -/
abbrev kI (i : Int) : Key := Sum.inl i
abbrev kP (p : Int × Int) : List Key := [Sum.inl p.1, Sum.inl p.2]
abbrev kL (ns : List Int) : List Key := ns.map Sum.inl
theorem kI_inj : ∀ x y : Int, kI x = kI y → x = y := fun _ _ e => Sum.inl.inj e
theorem kP_inj : ∀ x y : Int × Int, kP x = kP y → x = y := fun x y e => by
  injection e with e1 e2
  injection e2 with e2 _
  exact Prod.ext (Sum.inl.inj e1) (Sum.inl.inj e2)
theorem kL_inj : ∀ x y : List Int, kL x = kL y → x = y := fun _ _ e => List.map_inj_right (fun _ _ h => Sum.inl.inj h) |>.mp e
/-- a dict of ints, of pairs, of tuples -/
def mI {α : Type} (f : α → Rp) (l : List (Int × α)) : List (Key × Rp) := l.map fun e => (kI e.1, f e.2)
def mP {α : Type} (f : α → Rp) (l : List ((Int × Int) × α)) : List (List Key × Rp) := l.map fun e => (kP e.1, f e.2)
def mL {α : Type} (f : α → Rp) (l : List (List Int × α)) : List (List Key × Rp) := l.map fun e => (kL e.1, f e.2)
section
variable {α : Type} {f : α → Rp} {a : α}
theorem lk_mI {l : List (Int × α)} {k : Int} : lk (mI f l) (kI k) = (lk l k).map f := lk_mapK kI_inj
theorem lk_mP {l : List ((Int × Int) × α)} {k : Int × Int} : lk (mP f l) (kP k) = (lk l k).map f := lk_mapK kP_inj
theorem lk_mL {l : List (List Int × α)} {k : List Int} : lk (mL f l) (kL k) = (lk l k).map f := lk_mapK kL_inj
theorem pk_mI {l : List (Int × α)} {k : Int} : pk (mI f l) (kI k) (f a) = mI f (pk l k a) := pk_mapK kI_inj
theorem pk_mP {l : List ((Int × Int) × α)} {k : Int × Int} : pk (mP f l) (kP k) (f a) = mP f (pk l k a) := pk_mapK kP_inj
theorem pk_mL {l : List (List Int × α)} {k : List Int} : pk (mL f l) (kL k) (f a) = mL f (pk l k a) := pk_mapK kL_inj
end
/-- pigeons -/
theorem nodup_len {α : Type} [DecidableEq α] : ∀ {l V : List α}, l.Nodup → (∀ x ∈ l, x ∈ V) → l.length ≤ V.length
  | [], _, _, _ => Nat.zero_le _
  | x :: l, V, nd, h => by
    obtain ⟨h1, h2⟩ := List.nodup_cons.mp nd
    have hx := h x List.mem_cons_self
    have ih := nodup_len (l := l) (V := V.erase x) h2 fun y hy => (List.mem_erase_of_ne (fun e => h1 (by rw [← e]; exact hy))).mpr (h y (List.mem_cons_of_mem _ hy))
    rw [List.length_erase_of_mem hx] at ih
    have := List.length_pos_of_mem hx
    rw [List.length_cons]; omega
theorem lineBig {n : Nat} (h : n ≤ 100000) : n < sizeLine := by rw [sizeLine_eq]; omega
theorem lineBig' {n : Nat} (h : n ≤ 100000) : n ≤ sizeLine := Nat.le_of_lt (lineBig h)
end Rz
set_option Elab.async false
set_option linter.all false
set_option maxRecDepth 100000
set_option maxHeartbeats 4000000
/-! Rz17: loops over what is one of many, dicts whose values are each one of many. Own work. -/
namespace Rz
open PySem PySem.Spec L2
section
variable {K : PySem.W.Frag} {Y : List Addr} {t t' : Tys} {O : Os} {W : List Addr} {wi : TI} {g : TG} {tb tu ts : TS} {tl : TE} {Nx : Nxt} {Rt : Rts} {β : Type} {P : β → Prop} {Rs : β → List Rp}
theorem HT.nd (h : (O.map (·.1)).Nodup → HT Y t O W ts Nx Rt) : HT Y t O W ts Nx Rt := fun b s H a D n r => by
  obtain ⟨G, a'⟩ := a
  exact h a'.nd b s H ⟨G, a'⟩ D n r
def SrcE (t : Tys) (O : Os) (wi : TI) (P : β → Prop) (Rs : β → List Rp) : Prop := ∀ s G H, Ty s t G → RO O G H → Sub G H → ∀ Rk : It → Hp → Prop, (∀ J z G' H', P z → Step [] G H G' H' → Src J (Rs z) G' → Rk J H') → wi s H Rk
theorem src_lstE (h : EvT t O tl (rEx P fun z => rLst (Rs z))) : SrcE t O (iList K tl) P Rs := fun s G H T o sb Rk q => h s G H T o sb _ fun v G' H' st ⟨z, hz, hv⟩ => by
  obtain ⟨a, vs, rfl, ha, hx⟩ := hv
  refine ⟨a, rfl, ⟨vs, st.sub.lst ha⟩, q _ z G' H' hz st ⟨fun i H2 G2 hi e s2 => ?_, fun H2 G2 e s2 => ?_, fun i H2 G2 x H3 R hR e s2 y => ?_⟩⟩
  · have hi' : i < vs.length := by rw [hx.length]; exact hi
    exact ⟨vs, vs[i], s2.lst (e _ _ ha), by simp [hi']⟩
  · exact ⟨vs, s2.lst (e _ _ ha), by rw [hx.length]; exact Nat.le_refl _⟩
  · obtain ⟨e1, y1⟩ := y
    subst e1
    obtain ⟨v, h1, h2⟩ := hx.get hR
    have h3 := y1 vs (s2.lst (e _ _ ha))
    rw [h1] at h3; cases h3
    exact ⟨G2, Step.refl s2, R.mono _ _ _ e h2⟩
theorem ht_forE (hl : SrcE t O wi P Rs) (I : β → Nat → Nxt) (h0 : ∀ z, P z → I z 0 t O W)
    (hs : ∀ z i R t1 O1 W1, P z → (Rs z)[i]? = some R → I z i t1 O1 W1 → ∃ t2 us, TgT g R t1 t2 us ∧ HT Y t2 O1 W1 tb (I z (i + 1)) Rt)
    (hd : ∀ z t1 O1 W1, P z → I z (Rs z).length t1 O1 W1 → Nx t1 O1 W1) : HT Y t O W (tFor wi g tb) Nx Rt := fun b s H ⟨G, a⟩ D nn r => by
  refine hl s G H a.ty a.ro a.sub _ fun J z G1 H1 hz st src => ?_
  have a1 := a.step st
  let b1 : Bs := ⟨G1, b.H, b.X⟩
  let Pv : Nat → St → Hp → Prop := fun i s H => ∃ t1 O1 W1, I z i t1 O1 W1 ∧ At Y b1 t1 O1 W1 s H
  refine ⟨fun i m s H => m = (Rs z).length - i ∧ i ≤ (Rs z).length ∧ Pv i s H, ⟨_, rfl, Nat.zero_le _, t, O, W, h0 z hz, G1, a1.rebase⟩, ?_⟩
  rintro i m s2 H2 ⟨rfl, hi, t1, O1, W1, hI, G2, a2⟩
  by_cases hlt : i < (Rs z).length
  · refine .inr ⟨src.goes i H2 G2 hlt a2.st.gg a2.sub, Pv (i + 1), fun s' H' p' => ⟨(Rs z).length - (i + 1), by omega, rfl, hlt, p'⟩, fun x H3 y => ?_⟩
    obtain ⟨G3, s3, hx⟩ := src.yields i H2 G2 x H3 _ (List.getElem?_eq_getElem hlt) a2.st.gg a2.sub y
    obtain ⟨t2, us, tg, hb⟩ := hs z i _ t1 O1 W1 hz (List.getElem?_eq_getElem hlt) hI
    have a3 := a2.step s3
    refine tg x s2 G3 H3 hx a3.ty a3.sub _ fun s4 T4 _ => ?_
    refine hb b1 s4 H3 ⟨G3, T4, a3.ro, a3.st, a3.w, a3.y, a3.nd⟩ _ (fun t5 O5 W5 s5 H5 n5 a5 => ⟨t5, O5, W5, n5, a5⟩) fun R O5 W5 v G5 H5 hR st5 hv ho hw => ?_
    exact r R O5 W5 v G5 H5 hR (a1.st.rebase st5) hv ho hw
  · have e : i = (Rs z).length := by omega
    subst e
    exact .inl ⟨src.stops H2 G2 a2.st.gg a2.sub, nn t1 O1 W1 s2 H2 (hd z t1 O1 W1 hz hI) ⟨G2, a2.back a1.st⟩⟩
theorem hs_forE (hl : SrcE t O wi P Rs) (I : β → Nat → Nxt) (h0 : ∀ z, P z → I z 0 t O W)
    (hs : ∀ z i R t1 O1 W1, P z → (Rs z)[i]? = some R → I z i t1 O1 W1 → ∃ t2 us, TgT g R t1 t2 us ∧ HT Y t2 O1 W1 tb (I z (i + 1)) Rt)
    (hd : ∀ z t1 O1 W1, P z → I z (Rs z).length t1 O1 W1 → HT Y t1 O1 W1 tu Nx Rt) : HT Y t O W (tSeq (tFor wi g tb) tu) Nx Rt :=
  ht_seq (Nx := fun t1 O1 W1 => ∃ z, P z ∧ I z (Rs z).length t1 O1 W1) (ht_forE hl I h0 hs fun z _ _ _ hz h => ⟨z, hz, h⟩) fun t1 O1 W1 ⟨z, hz, h⟩ => hd z t1 O1 W1 hz h
end
/-- each value one of many: one of many dicts -/
theorem allK_ex {κ α γ : Type} {kf : α → κ} {Pf : α → γ → Prop} {R : γ → Rp} : ∀ {l : List (κ × V)} {xs : List α} {G : Hp}, AllK l (xs.map fun x => (kf x, rEx (Pf x) R)) G → ∃ ys : List (α × γ), ys.map (·.1) = xs ∧ (∀ y ∈ ys, Pf y.1 y.2) ∧ AllK l (ys.map fun y => (kf y.1, R y.2)) G
  | [], [], _, _ => ⟨[], rfl, by simp, trivial⟩
  | p :: l, x :: xs, G, h => by
    obtain ⟨⟨e, z, hz, hv⟩, ht⟩ := h
    obtain ⟨ys, h1, h2, h3⟩ := allK_ex (l := l) (xs := xs) ht
    refine ⟨(x, z) :: ys, by rw [List.map_cons, h1], fun y hy => ?_, ⟨e, hv⟩, h3⟩
    rcases List.mem_cons.mp hy with rfl | hy
    · exact hz
    · exact h2 y hy
  | [], _ :: _, _, h => h.elim
  | _ :: _, [], _, h => h.elim
theorem all2_ex {α γ : Type} {Pf : α → γ → Prop} {R : α → γ → Rp} : ∀ {l : List V} {xs : List α} {G : Hp}, All2 l (xs.map fun x => rEx (Pf x) (R x)) G → ∃ ys : List (α × γ), ys.map (·.1) = xs ∧ (∀ y ∈ ys, Pf y.1 y.2) ∧ All2 l (ys.map fun y => R y.1 y.2) G
  | [], [], _, _ => ⟨[], rfl, by simp, trivial⟩
  | p :: l, x :: xs, G, h => by
    obtain ⟨⟨z, hz, hv⟩, ht⟩ := h
    obtain ⟨ys, h1, h2, h3⟩ := all2_ex (l := l) (xs := xs) ht
    refine ⟨(x, z) :: ys, by rw [List.map_cons, h1], fun y hy => ?_, hv, h3⟩
    rcases List.mem_cons.mp hy with rfl | hy
    · exact hz
    · exact h2 y hy
  | [], _ :: _, _, h => h.elim
  | _ :: _, [], _, h => h.elim
theorem lk_set {κ α : Type} [DecidableEq κ] : ∀ {l : List (κ × α)} {j : Nat} {u x : κ} {a b : α}, (l.map (·.1)).Nodup → l[j]? = some (u, a) → lk (l.set j (u, b)) x = if u = x then some b else lk l x
  | [], j, u, x, a, b, _, h => by simp at h
  | p :: l, 0, u, x, a, b, nd, h => by
    have h : p = (u, a) := Option.some.inj h
    subst h
    show lk ((u, b) :: l) x = _
    rw [lk_cons, lk_cons]
    by_cases e : u = x <;> simp [e]
  | p :: l, j + 1, u, x, a, b, nd, h => by
    obtain ⟨n1, n2⟩ := List.nodup_cons.mp nd
    have h : l[j]? = some (u, a) := by simpa using h
    have ih := lk_set (x := x) (b := b) n2 h
    show lk (p :: l.set j (u, b)) x = _
    rw [lk_cons, lk_cons, ih]
    have hm : u ∈ l.map (·.1) := List.mem_map.mpr ⟨_, List.mem_of_getElem? h, rfl⟩
    have ne : p.1 ≠ u := fun e => n1 (show p.1 ∈ l.map (·.1) by rw [e]; exact hm)
    by_cases e : p.1 = x
    · have : ¬ u = x := fun z => ne (e.trans z.symm)
      simp [e, this]
    · simp [e]
end Rz
set_option Elab.async false
set_option linter.all false
set_option maxRecDepth 100000
set_option maxHeartbeats 4000000
/-! Rz18: a call that changes an object, its arguments one of many. Own work. -/
namespace Rz
open PySem PySem.Spec L2
section
variable {K : PySem.W.Frag} {Y : List Addr} {t : Tys} {O : Os} {W : List Addr} {p : Addr} {c : OC} {te : TE} {tr tk : TA} {tz : TS} {R : Rp} {Nx : Nxt} {Rt : Rts} {α : Type}
/-- f(..) as a statement, its arguments one of many -/
theorem ht_callMX {Rs : α → Addr → List Rp} {ca : α → OC} {Oa : α → Os} {pre : α → Prop} {post : α → OC → Prop} {Rr : α → Rp} {E : XK} {k : Nat} {Rs0 : List Rp} {Z : α → Prop} (ha : EvA t O tr Rs0) (hx : ∀ vs G, All2 vs Rs0 G → ∃ x, Z x ∧ All2 vs (Rs x p) G) (hk : O[k]? = some (p, c)) (hca : ∀ x, Z x → ca x = c) (hw : p ∈ W ∨ p ∈ Y) (hp : ∀ x, Z x → pre x) (hm : ∀ x c', Z x → post x c' → c'.may = true) (ho : ∀ x, Z x → Oa x = [])
    (h : ∀ x c', Z x → post x c' → Nx t (O.set k (p, c')) W) : HT Y t O W (tDrop (tCall (PrmM Rs ca Oa pre post Rr) [] E tr)) Nx Rt := fun b s H ⟨G, a⟩ D n rr =>
  ha s G H a.ty a.ro a.sub _ fun vs G1 H1 s1 hvs => by
    have a1 := a.step s1
    have hmem := List.mem_of_getElem? hk
    obtain ⟨x, hZ, hvs⟩ := hx vs G1 hvs
    have gp : G1 p = none := by
      rcases hw with h | h
      · exact (a1.w p h).1
      · exact (a1.y p h).1
    refine ⟨x, G1, p, hp x hZ, by rw [List.append_nil]; exact hvs, fun e he => ?_, by rw [ho x hZ]; simp, gp, s1.sub, fun v G' H' c' hc' st ro hv => ?_⟩
    · rw [ho x hZ, hca x hZ] at he
      rw [List.mem_singleton.mp he]
      exact a1.ro _ hmem
    · -- first the object's new content is put, then the rest of the step is gone
      obtain ⟨u, hu, hok⟩ := ro (p, c') (by simp)
      have hlt : k < O.length := (List.getElem?_eq_some_iff.mp hk).1
      have hOk : O[k] = (p, c) := (List.getElem?_eq_some_iff.mp hk).2
      have ndk : (O.set k (p, c')).map (·.1) = O.map (·.1) := by
        rw [List.map_set]
        apply List.ext_getElem (by simp)
        intro j h1 h2
        by_cases e : k = j
        · subst e; simp [hOk]
        · rw [List.getElem_set_ne e]
      have keepH : ∀ q o, H1 q = some o → q ≠ p → H' q = some o := fun q o hq ne => st.hh q o hq (by simpa using ne)
      refine n _ _ _ _ _ (h x c' hZ hc') ⟨G', a1.ty.mono st.gg, fun e he => ?_, ⟨a1.st.gg.trans st.gg, st.sub, fun q o hq nx => ?_, fun q hq => st.all q (a1.st.all q hq), fun q hq => (st.old q (a1.st.nt q hq)).trans (a1.st.old q hq), fun q hq => st.nt q (a1.st.nt q hq), fun q vs hq => st.tt q vs (a1.st.tt q vs hq)⟩, fun q hq => ?_, fun q hq => ?_, by rw [ndk]; exact a1.nd⟩
      · obtain ⟨j, hj, ej⟩ := List.mem_iff_getElem.mp he
        by_cases e1 : k = j
        · subst e1
          rw [List.getElem_set_self] at ej
          subst ej
          exact ⟨u, hu, hok⟩
        · rw [List.getElem_set_ne e1] at ej
          have hj' : j < O.length := by simpa using hj
          have he' : e ∈ O := by rw [← ej]; exact List.getElem_mem hj'
          have ne : e.1 ≠ p := fun q => e1 (by
            have h1 : (O.map (·.1))[k]'(by simpa using hlt) = (O.map (·.1))[j]'(by simpa using hj') := by simp [hOk, ej, q]
            exact (List.getElem_inj a1.nd).mp h1)
          obtain ⟨v, h1, h2⟩ := a1.ro e he'
          exact ⟨v, keepH _ _ h1 ne, OC.ok_mono st.gg h2⟩
      · have h1 := a1.st.hh q o hq nx
        by_cases e : q = p
        · exfalso
          rcases hw with h | h
          · rw [e, (a1.w p h).2.2] at hq; cases hq
          · exact nx (by rw [e]; exact (a1.y p h).2.2.1)
        · exact keepH q o h1 e
      · obtain ⟨h1, ⟨o, h2, h3⟩, h4⟩ := a1.w q hq
        refine ⟨(st.old q (.mut h2 h3)).trans h1, ?_, h4⟩
        by_cases e : q = p
        · rw [e]; exact ⟨u, hu, ok_mut hok (hm x c' hZ hc')⟩
        · exact ⟨o, keepH q o h2 e, h3⟩
      · obtain ⟨h1, ⟨o, h2, h3⟩, h4⟩ := a1.y q hq
        refine ⟨(st.old q (.mut h2 h3)).trans h1, ?_, h4⟩
        by_cases e : q = p
        · rw [e]; exact ⟨u, hu, ok_mut hok (hm x c' hZ hc')⟩
        · exact ⟨o, keepH q o h2 e, h3⟩
/-- i, j = (v, w), by way of a tuple -/
theorem asg2 {b : Bs} {s : St} {H G : Hp} {i j : Nat} {v w : V} {R1 R2 : Rp} {D : Ends} (a : AtG Y b t O W s H G) (hv : R1.p v G) (hw : R2.p w G) (kk : HT Y ((t.set i (some R1)).set j (some R2)) O W tz Nx Rt)
    (n : ∀ t' O' W' s' H', Nx t' O' W' → At Y b t' O' W' s' H' → D.nx s' H') (r : ∀ R O' W' v G' H', Rt R O' W' → Step b.X b.G b.H G' H' → R.p v G' → RO O' G' H' → (∀ a ∈ W', G' a = none ∧ b.H a = none) → D.rt v H') :
    [v, w].length ≤ sizeLine ∧ ∀ p, H p = none → gTup K 2 (gCons (gName i) (gCons (gName j) gNil)) (.ref p) s (upd H p (.tup [v, w])) (tz D) :=
  ⟨by show 2 ≤ sizeLine; decide, fun p hp => ⟨p, [v, w], rfl, SqT.of upd_same, rfl, v, [w], rfl, w, [], rfl, rfl, by
    have a1 := ((a.step (Step.newH (o := .tup [v, w]) a.sub hp)).setTy (i := i) hv).setTy (i := j) hw
    exact kk b _ _ ⟨G, a1⟩ D n r⟩⟩
theorem hs_tupTN {β : Type} {P : β → Prop} {Rb : β → Rp} {i j : Nat} {ta tb : TE} (h1 : EvT t O ta (rEx P Rb)) (h2 : EvN t O tb c) (hm : c.may = true := by rfl) (kk : ∀ z p, P z → HT Y ((t.set i (some (Rb z))).set j (some (rRef p))) ((p, c) :: O) (p :: W) tz Nx Rt) :
    HT Y t O W (tSeq (tAsg (tTup (tCons ta (tCons tb tNil))) (gTup K 2 (gCons (gName i) (gCons (gName j) gNil)))) tz) Nx Rt := fun b s H ⟨G, a⟩ D n r =>
  atT (te := ta) h1 a fun v G1 H1 a1 e1 ⟨z, hz, hv⟩ => atN (te := tb) h2 hm a1 fun p G2 H2 a2 e2 => asg2 (tz := tz) (D := D) a2 ((Rb z).mono _ _ _ e2 hv) (R2 := rRef p) rfl (kk z p hz) n r
theorem hs_tupNN {i j : Nat} {ta tb : TE} {c' : OC} (h1 : EvN t O ta c) (h2 : ∀ p, EvN t ((p, c) :: O) tb c') (hm : c.may = true := by rfl) (hm2 : c'.may = true := by rfl) (kk : ∀ p q, HT Y ((t.set i (some (rRef p))).set j (some (rRef q))) ((q, c') :: (p, c) :: O) (q :: p :: W) tz Nx Rt) :
    HT Y t O W (tSeq (tAsg (tTup (tCons ta (tCons tb tNil))) (gTup K 2 (gCons (gName i) (gCons (gName j) gNil)))) tz) Nx Rt := fun b s H ⟨G, a⟩ D n r =>
  atN (te := ta) h1 hm a fun p G1 H1 a1 e1 => atN (te := tb) (h2 p) hm2 a1 fun q G2 H2 a2 e2 => asg2 (tz := tz) (D := D) a2 (R1 := rRef p) rfl (R2 := rRef q) rfl (kk p q) n r
theorem hs_tupTT {β γ : Type} {P : β → Prop} {Q : γ → Prop} {Rb : β → Rp} {Rc : γ → Rp} {i j : Nat} {ta tb : TE} (h1 : EvT t O ta (rEx P Rb)) (h2 : EvT t O tb (rEx Q Rc)) (kk : ∀ z y, P z → Q y → HT Y ((t.set i (some (Rb z))).set j (some (Rc y))) O W tz Nx Rt) :
    HT Y t O W (tSeq (tAsg (tTup (tCons ta (tCons tb tNil))) (gTup K 2 (gCons (gName i) (gCons (gName j) gNil)))) tz) Nx Rt := fun b s H ⟨G, a⟩ D n r =>
  atT (te := ta) h1 a fun v G1 H1 a1 e1 ⟨z, hz, hv⟩ => atT (te := tb) h2 a1 fun w G2 H2 a2 e2 ⟨y, hy, hw⟩ => asg2 (tz := tz) (D := D) a2 ((Rb z).mono _ _ _ e2 hv) hw (kk z y hz hy) n r
/-- two values, each one of many -/
theorem hs_parTT {β γ : Type} {P : β → Prop} {Q : γ → Prop} {Rb : β → Rp} {Rc : γ → Rp} {i j : Nat} {ta tb : TE} (h1 : EvT t O ta (rEx P Rb)) (h2 : EvT t O tb (rEx Q Rc)) (kk : ∀ z y, P z → Q y → HT Y ((t.set i (some (Rb z))).set j (some (Rc y))) O W tz Nx Rt) :
    HT Y t O W (tSeq (tPar i j (tCons ta (tCons tb tNil))) tz) Nx Rt := fun b s H ⟨G, a⟩ D n r =>
  atT (te := ta) h1 a fun v G1 H1 a1 e1 ⟨z, hz, hv⟩ => atT (te := tb) h2 a1 fun w G2 H2 a2 e2 ⟨y, hy, hw⟩ => ⟨v, w, rfl, kk z y hz hy b _ _ ⟨G2, (a2.setTy ((Rb z).mono _ _ _ e2 hv)).setTy hw⟩ D n r⟩
theorem EvT.one (h : EvT t O te R) : EvT t O te (rEx (fun _ : Unit => True) fun _ => R) := h.sub fun _ _ hv => ⟨(), trivial, hv⟩
end
end Rz
set_option Elab.async false
set_option linter.all false
set_option maxRecDepth 100000
set_option maxHeartbeats 4000000
/-! Rz19: returning a new object, fields that are one of many, making an object whose fields are one of many. Own work. -/
namespace Rz
open PySem PySem.Spec L2
section
variable {K : PySem.W.Frag} {Y : List Addr} {t : Tys} {O : Os} {W : List Addr} {te ta tb tv : TE} {tr tk : TA} {tu tz ts : TS} {R Ra : Rp} {Nx : Nxt} {Rt : Rts} {p : Addr} {k : Nat} {c : OC} {β : Type} {P : β → Prop} {Rb : β → Rp}
theorem ht_retN (h : EvN t O te c) (hm : c.may = true := by rfl) (k : ∀ p, Rt (rRef p) ((p, c) :: O) (p :: W)) : HT Y t O W (tRet te) Nx Rt := fun b s H ⟨G, a⟩ D n r =>
  atN h hm a fun p G' H' a' _ => r (rRef p) _ _ _ G' H' (k p) a'.st rfl a'.ro fun q hq => ⟨(a'.w q hq).1, (a'.w q hq).2.2⟩
/-- o.f = e, e one of many -/
theorem hs_fldE {C dx : Addr} {f : Str} {fs : List (Str × Rp)} (hv : EvT t O tv (rEx P Rb)) (ha : EvT t O ta (rRef p)) (hO : O[k]? = some (p, .ins C dx fs)) (hw : p ∈ W ∨ p ∈ Y) (hc : Cls K C) (hn : NoAttr K C f) (hl : fs.length < 1000) (h : ∀ z, P z → HT Y t (O.set k (p, .ins C dx (putR f (Rb z) fs))) W tz Nx Rt) :
    HT Y t O W (tSeq (sFld K ta tv f) tz) Nx Rt := fun b s H ⟨G, a⟩ D n rr =>
  atT (te := tv) hv a fun v G1 H1 a1 e1 ⟨z, hz, hv1⟩ => atT (te := ta) ha a1 fun x G2 H2 a2 e2 hx => by
    have hx : x = .ref p := hx
    subst hx
    obtain ⟨u, h1, h2⟩ := a2.ro _ (List.mem_of_getElem? hO)
    have h1 : H2 p = some u := h1
    cases u with
    | ins C' dx' l =>
      obtain ⟨rfl, rfl, h3⟩ := h2
      refine ⟨p, C, dx, l, rfl, h1, hc, hn, by rw [h3.length]; exact hl, ?_⟩
      exact h z hz b _ _ ⟨G2, a2.put hO hw h1 (c := .ins C dx (putR f (Rb z) fs)) (u := .ins C dx (L2.putF f v l)) ⟨rfl, rfl, h3.putF ((Rb z).mono _ _ _ e2 hv1)⟩ rfl⟩ D n rr
    | _ => exact h2.elim
theorem hs_fld {C dx : Addr} {f : Str} {fs : List (Str × Rp)} (hv : EvT t O tv R) (ha : EvT t O ta (rRef p)) (hO : O[k]? = some (p, .ins C dx fs)) (hw : p ∈ W ∨ p ∈ Y) (hc : Cls K C) (hn : NoAttr K C f) (hl : fs.length < 1000) (h : HT Y t (O.set k (p, .ins C dx (putR f R fs))) W tz Nx Rt) :
    HT Y t O W (tSeq (sFld K ta tv f) tz) Nx Rt := hs_fldE (P := fun _ : Unit => True) (Rb := fun _ => R) hv.one ha hO hw hc hn hl fun _ _ => h
/-- how __init__ is promised: self is new and bare, its fields come to be one of many -/
def PrmIE {α β : Type} (C : Addr) (Rs : α → List Rp) (pre : α → Prop) (Pf : α → β → Prop) (fs : α → β → List (Str × Rp)) : Sp := PrmM (fun (x : α × Addr) p => rRef p :: Rs x.1) (fun x => .ins C x.2 []) (fun _ => []) (fun x => pre x.1) (fun x c => ∃ b, Pf x.1 b ∧ c = .ins C x.2 (fs x.1 b)) (fun _ => rNon)
theorem madeE {α β : Type} {C : Addr} {Rs : α → List Rp} {pre : α → Prop} {Pf : α → β → Prop} {fs : α → β → List (Str × Rp)} {vs : List V} {E : XK} {Q : VK} (x : α) (hp : pre x) {G1 H1 : Hp} (sb : Sub G1 H1) (hv : All2 vs (Rs x) G1) (q : ∀ v G' H', Step [] G1 H1 G' H' → (rEx (Pf x) fun b => rIns C (fs x b)).p v G' → Q v H') {y dx : Addr} (hy : H1 y = none) (hdx : H1 dx = none) (ne : dx ≠ y) :
    PrmIE C Rs pre Pf fs (.ref y :: vs) (upd (upd H1 dx (.own y)) y (.ins C dx [])) (fun v H2 => v = .non ∧ Q (.ref y) H2) E := by
  have gy : G1 y = none := sb.none hy
  have up : ∀ {a o}, H1 a = some o → upd (upd H1 dx (.own y)) y (.ins C dx []) a = some o := fun {a o} h => by
    rw [upd_ne (ne_of_none h hy), upd_ne (ne_of_none h hdx)]; exact h
  refine ⟨(x, dx), G1, y, hp, ⟨rfl, hv⟩, fun e he => ?_, by simp, gy, fun a u ha => ?_, fun v G' H' c' hc st ro hr => ⟨hr, ?_⟩⟩
  · rw [List.mem_singleton.mp he]
    exact ⟨_, upd_same, rfl, rfl, trivial⟩
  · rcases sb a u ha with z | ⟨d, o, z⟩
    · exact .inl (up z)
    · exact .inr ⟨d, o, up z⟩
  · obtain ⟨b, hb, rfl⟩ := hc
    obtain ⟨u, h1, h2⟩ := ro (y, .ins C dx (fs x b)) (by simp)
    have h1 : H' y = some u := h1
    have gy' : G' y = none := (st.old y (.mut upd_same trivial)).trans gy
    have e : Ex G' (upd G' y u) := Ex.new gy'
    refine q (.ref y) (upd G' y u) H' (Step.of (st.gg.trans e) (fun a w ha => ?_) (fun a w ha => ?_) fun a ha => ?_) ?_
    · by_cases ea : a = y
      · rw [ea, upd_same] at ha; cases ha; rw [ea]; exact .inl h1
      · rw [upd_ne ea] at ha; exact st.sub a w ha
    · exact st.hh a w (up ha) (by simpa using ne_of_none ha hy)
    · have ea : a ≠ y := fun z => ha.1 (by rw [z]; exact hy)
      have ed : a ≠ dx := fun z => ha.1 (by rw [z]; exact hdx)
      rw [upd_ne ea]
      exact st.old a ⟨by rw [upd_ne ea, upd_ne ed]; exact ha.1, fun vs => by rw [upd_ne ea, upd_ne ed]; exact ha.2 vs⟩
    · cases u with
      | ins C' dx' l =>
        obtain ⟨rfl, rfl, h3⟩ := h2
        exact ⟨b, hb, y, dx, l, rfl, upd_same, h3.mono e⟩
      | _ => exact h2.elim
theorem ez_makeE {α β γ : Type} {C : Addr} {Rs : α → List Rp} {pre : α → Prop} {Pf : α → β → Prop} {fs : α → β → List (Str × Rp)} {E : XK} {dvs : List V} {z : Addr} {cz : OC} {Ra : List Rp} {Q : γ → Prop} (f : γ → α) (ha : EaZ z cz t O tr Ra) (hd : ∀ vs G, All2 vs Ra G → ∃ x, Q x ∧ All2 (vs ++ dvs) (Rs (f x)) G) (hp : ∀ x, Q x → pre (f x)) :
    EvZ z cz t O (tMake C (PrmIE C Rs pre Pf fs) dvs E tr) (rEx (fun xb : γ × β => Q xb.1 ∧ Pf (f xb.1) xb.2) fun xb => rIns C (fs (f xb.1) xb.2)) := fun hb s G H T o sb hg Q q =>
  ha hb s G H T o sb hg _ fun vs G1 H1 s1 o1 hvs y dx hy hdx ne => by
    obtain ⟨x, hx, h2⟩ := hd vs G1 hvs
    exact madeE (f x) (hp x hx) s1.sub h2 (fun v G' H' st ⟨b, hb, hv⟩ => q v G' H' (s1.trans st.any) (o1.step st.gg st.ex) ⟨(x, b), ⟨hx, hb⟩, hv⟩) hy hdx ne
theorem ev_makeKE {α β : Type} {C : Addr} {Rs : α → List Rp} {pre : α → Prop} {Pf : α → β → Prop} {fs : α → β → List (Str × Rp)} {E : XK} {n m : Nat} {gV : List V → List V → List V} {Ra Rk : List Rp} (x : α) (ha : EvA t O tr Ra) (hk : EvA t O tk Rk) (hn : Ra.length = n) (hm : Rk.length = m)
    (hg : ∀ y vs zs G, All2 vs Ra G → All2 zs Rk G → ∃ us, gV (.ref y :: vs) zs = .ref y :: us ∧ All2 us (Rs x) G) (hp : pre x) : EvT t O (tMakeK C n m (PrmIE C Rs pre Pf fs) gV E tr tk) (rEx (Pf x) fun b => rIns C (fs x b)) := fun s G H T o sb Q q =>
  ha s G H T o sb _ fun vs G1 H1 s1 hvs => hk s G1 H1 (T.mono s1.gg) (o.step s1.gg s1.ex) s1.sub _ fun zs G2 H2 s2 hzs => by
    refine ⟨hvs.length.trans hn, hzs.length.trans hm, fun y dx hy hdx ne => ?_⟩
    obtain ⟨us, e, hus⟩ := hg y vs zs G2 (hvs.mono s2.gg) hzs
    rw [e]
    exact madeE x hp s2.sub hus (fun v G' H' st hv => q v G' H' ((s1.trans s2).trans st) hv) hy hdx ne
end
theorem vals_rev : ∀ {vs : List V} {us : List Value}, Vals vs us → Vals vs.reverse us.reverse
  | _, _, .nil => .nil
  | _, _, .cons r t => by
    rw [List.reverse_cons, List.reverse_cons]
    exact (vals_rev t).append (.cons r .nil)
end Rz
set_option Elab.async false
set_option linter.all false
set_option maxRecDepth 100000
set_option maxHeartbeats 4000000
/-! Rz20: tests that are not known, own objects told where outside ones may change, lists set in place. Own work. -/
namespace Rz
open PySem PySem.Spec L2
section
variable {K : PySem.W.Frag} {Y : List Addr} {t : Tys} {O : Os} {W : List Addr} {te ta tb tv : TE} {tt tu : TT} {tr : TA} {tz ts : TS} {R Ra : Rp} {Nx : Nxt} {Rt : Rts} {p : Addr} {k : Nat} {c : OC}
theorem ebz_b {β : Type} {P : β → Prop} {f : β → Bool} (h : EvZ p c t O te (rEx P fun z => rBl (f z))) : EbZ p c t O (tB te) (fun x => ∃ z, P z ∧ x = f z) := fun hb s G H T o sb hg Q q => h hb s G H T o sb hg _ fun v G' H' st o' ⟨z, hz, hv⟩ => ⟨f z, hv, q _ G' H' ⟨z, hz, rfl⟩ st o'⟩
theorem EbZ.any {bp : Bool → Prop} (h : EbZ p c t O tt bp) : EbZ p c t O tt (fun _ => True) := fun hb s G H T o sb hg Q q => h hb s G H T o sb hg Q fun x G' H' _ st o' => q x G' H' trivial st o'
theorem ebz_and2 {b1 b2 : Bool → Prop} (h1 : EbZ p c t O tt b1) (h2 : EbZ p c t O tu b2) : EbZ p c t O (tAnd tt tu) (fun _ => True) := fun hb s G H T o sb hg Q q => h1 hb s G H T o sb hg _ fun x G1 H1 hx s1 o1 => by
  cases x with
  | true => exact iteT (h2 hb s G1 H1 (T.mono s1.gg) o1 s1.sub (hb.keep o hg s1) _ fun y G2 H2 hy s2 o2 => q y G2 H2 trivial (s1.trans s2) o2)
  | false => exact iteF (q _ G1 H1 trivial s1 o1)
theorem HT.freezeY {i : Nat} (Rc : Rp) (hi : t[i]? = some (some (rRef p))) (hk : O[k]? = some (p, c)) (hw : p ∈ W) (hR : ∀ o F, F p = some o → c.ok o F → Rc.p (.ref p) F)
    (h : HT Y (t.set i (some Rc)) (O.eraseIdx k) [] ts Nx Rt) : HT Y t O W ts Nx Rt := fun b s H ⟨G, a⟩ D n r => by
  have hY : p ∉ Y := fun hy => (a.y p hy).2.2.2 (a.w p hw).2.2
  exact h b s H (a.freeze (W' := []) Rc hi hk hw (by simp) hY hR) D n r
/-- xs[i] = e, as a step ahead of the rest -/
theorem hs_lset {ti : TE} {to : TE} {i : Int} {m : Nat} {Rs : List Rp} (hv : EvT t O te R) (ho : EvT t O to (rRef p)) (hi : EvT t O ti (rInt i)) (hO : O[k]? = some (p, .lst Rs)) (hw : p ∈ W ∨ p ∈ Y) (e : i = (m : Int)) (hl : m < Rs.length) (h : HT Y t (O.set k (p, .lst (Rs.set m R))) W tz Nx Rt) :
    HT Y t O W (tSeq (tAsg te (gSub to ti rSetL)) tz) Nx Rt := ht_seq (Nx := fun t1 O1 W1 => t1 = t ∧ O1 = O.set k (p, .lst (Rs.set m R)) ∧ W1 = W) (ht_lset hv ho hi hO hw e hl ⟨rfl, rfl, rfl⟩) fun _ _ _ ⟨e1, e2, e3⟩ => h.eq e1 e2 e3
end
end Rz
set_option Elab.async false
set_option linter.all false
set_option maxRecDepth 100000
set_option maxHeartbeats 4000000
/-! Rz21: an int as a test, lists of tuples compared with none. Own work. -/
namespace Rz
open PySem PySem.Spec L2
section
variable {X : Cx} (K : PySem.W.Frag)
theorem pt_truthK {a : Expr} {ta : TE} (ha : PE X a ta) (he : ∀ whole, isTrue a X.env whole = (do let v ← whole; standAt a.pos; holding [v] (truthy v))) (e : X.K = K := by rfl) :
    PT X a (fun σ H Q => ta σ H fun x H1 => ∃ k, TruV K x H1 k ∧ Q k H1) := by subst e; exact pt_truth ha he
end
section
variable {K : PySem.W.Frag} {t : Tys} {O : Os} {te : TE}
theorem eb_truthI {i : Int} (h : EvT t O te (rInt i)) : EvB t O (fun σ H Q => te σ H fun x H1 => ∃ k, TruV K x H1 k ∧ Q k H1) (i != 0) := fun s G H T o sb Q q => h s G H T o sb _ fun v G1 H1 st hv => by
  have hv : v = .int i := hv
  subst hv
  exact ⟨_, rfl, q G1 H1 st⟩
/-! ### lists of int tuples -/
def daLL (nss : List (List Int)) : List Da := nss.map fun ns => Da.tup (daI ns)
theorem daLL_rps : ∀ nss : List (List Int), Da.rps (daLL nss) = nss.map rTI
  | [] => by simp [daLL, Da.rps]
  | ns :: nss => by
    have ih := daLL_rps nss
    simp only [daLL, List.map_cons, Da.rps] at ih ⊢
    rw [ih, daI_rp]
theorem daLL_rp (nss : List (List Int)) : (Da.lst (daLL nss)).rp = rLst (nss.map rTI) := by simp only [Da.rp]; rw [daLL_rps]
theorem depth_ints (ns : List Int) : PyData.depthAll (Da.pys (daI ns)) = 0 := by
  induction ns with
  | nil => simp [daI, Da.pys, PyData.depthAll]
  | cons n r ih =>
    simp only [daI, List.map_cons, Da.pys, Da.py, PyData.depthAll, PyData.depth] at ih ⊢
    rw [ih]; rfl
theorem canLay_LL : ∀ nss : List (List Int), PyData.canLayAll0 (Da.pys (daLL nss)) = true
  | [] => by simp [daLL, Da.pys, PyData.canLayAll0]
  | ns :: nss => by
    have ih := canLay_LL nss
    simp only [daLL, List.map_cons, Da.pys, Da.py] at ih ⊢
    simp only [PyData.canLayAll0, PyData.canLay0, ih, (canLay_ints ns).2, Bool.and_self]
theorem depth_LL (nss : List (List Int)) : PyData.depthAll (Da.pys (daLL nss)) ≤ 1 := by
  induction nss with
  | nil => simp [daLL, Da.pys, PyData.depthAll]
  | cons ns r ih =>
    simp only [daLL, List.map_cons, Da.pys, Da.py, PyData.depthAll, PyData.depth] at ih ⊢
    rw [depth_ints]; omega
theorem shaped_LL (nss : List (List Int)) : SeqAt.shaped (Da.py (.lst (daLL nss))) = true := by
  have c := canLay_LL nss
  have d := depth_LL nss
  simp only [Da.py, SeqAt.shaped, PyData.canLay0, PyData.depth, c]
  simp; omega
theorem vo_eqLL0 {nss : List (List Int)} : VO O (rEqD K) (rLst (nss.map rTI)) (rLst []) (rBl nss.isEmpty) := by
  have h := vo_eqD (K := K) (O := O) (shaped_LL nss) (shaped_LL [])
  rw [daLL_rp, daLL_rp] at h
  have e : PyData.eqv (Da.py (.lst (daLL nss))) (Da.py (.lst (daLL []))) = nss.isEmpty := by
    cases nss with
    | nil => simp [daLL, Da.py, Da.pys, PyData.eqv, PyData.eqvAll]
    | cons ns r => simp [daLL, Da.py, Da.pys, PyData.eqv, PyData.eqvAll]
  rw [e] at h
  exact h
end
end Rz
set_option Elab.async false
set_option linter.all false
set_option maxRecDepth 100000
set_option maxHeartbeats 4000000
/-! Rz22: tuple(..) and list(..) of a sequence, with the fragment named. Own work. -/
namespace Rz
open PySem PySem.Spec L2
section
variable {X : Cx} (K : PySem.W.Frag)
theorem tupleOfK (e : X.K = K := by rfl) : CallR X (.type "tuple") (fun xs H Q => ∃ p ys, xs = [.ref p] ∧ ((SqL K H p ys ∧ ∀ l, H l = none → Q (.ref l) (upd H l (.tup ys))) ∨ (SqT K H p ys ∧ Q (.ref p) H))) := e ▸ call_tuple_of
theorem listOfK (e : X.K = K := by rfl) : CallR X (.type "list") (fun xs H Q => ∃ p ys, xs = [.ref p] ∧ (SqL K H p ys ∨ SqT K H p ys) ∧ ∀ l, H l = none → Q (.ref l) (upd H l (.lst ys))) := e ▸ call_list_of
end
end Rz
set_option Elab.async false
set_option linter.all false
set_option maxRecDepth 100000
set_option maxHeartbeats 4000000
/-! Rz23: a promise that changes its first argument and gives a value that holds a new object. Own work. -/
namespace Rz
open PySem PySem.Spec L2
def PrmX {α β : Type} (Rs : α → Addr → List Rp) (c : α → OC) (pre : α → Prop) (Pf : α → β → Prop) (Rb : α → β → Addr → Rp) (cb : α → β → OC) : Sp := fun vs H Q _ => ∃ x G p, pre x ∧ All2 vs (Rs x p) G ∧ RO [(p, c x)] G H ∧ G p = none ∧ Sub G H ∧
  ∀ v G' H' b q o, Pf x b → Step [p] G H G' H' → RO [(p, c x)] G' H' → H q = none → G' q = none → H' q = some o → (cb x b).ok o G' → (Rb x b q).p v G' → Q v H'
section
variable {P : Program} {w : World} {K : PySem.W.Frag} {mg : Str → Option Value} {base : Heap} {x qual : Str} {params : Arguments} {body : List Stmt} {scope : Scope} {dvs : List V} {kws : List (Str × V)} {f : Addr} {fd : FuncData} {α β : Type}
theorem fn_prmX {Rs : α → Addr → List Rp} {c : α → OC} {pre : α → Prop} {Pf : α → β → Prop} {Rb : α → β → Addr → Rp} {cb : α → β → OC} {N ps : List Str} {k : Nat} (F : FunD K x qual params body scope dvs kws f fd) (S : FnScope N ps scope) (hlen : ∀ a p, (Rs a p).length = ps.length) (hm : ∀ a, (c a).may = true)
    (hbody : ∀ (cdv : Value) (A : Around) (outer : List Env) (s : Shared) (H : Hp) (E : XK), Room k (A.deeper (PyProof.Rows.envOfC qual scope s.heap.objs.size f cdv)) →
      ∃ t, PSs (cxOf CX0 P w K mg base N qual scope f cdv A outer s H E).nox body t ∧ ∀ a p, pre a → HT [p] (startT N (Rs a p)) [(p, c a)] [] t (fun _ _ _ => False) (fun R' O' W' => ∃ b q, Pf a b ∧ R' = Rb a b q ∧ (p, c a) ∈ O' ∧ (q, cb a b) ∈ O' ∧ q ∈ W')) :
    FnOk P w K mg base CX0 (k + 1) f fd ps (PrmX Rs c pre Pf Rb cb) := by
  refine F.ok S (fun vs H Q E ⟨a, G, p, _, hv, _⟩ => by rw [hv.length, hlen a]) fun cdv A outer s H vs Q E hr ⟨a, G, p, hp, hv, ho, hg, sb, q⟩ => ?_
  obtain ⟨t, h1, h2⟩ := hbody cdv A outer s H E hr
  obtain ⟨o, ho1, ho2⟩ := ho (p, c a) (by simp)
  refine ⟨t, h1.nox, h2 a p hp ⟨G, H, [p]⟩ _ H ⟨G, ?_, ho, Step.refl sb, by simp, fun y hy => ?_, by simp⟩ _ (fun t' O' W' s' H' e _ => e.elim) fun R' O' W' v G' H' e st hv' ro hw => ?_⟩
  · unfold L2.start startT
    rw [hv.length]
    exact ty_start (N := N) _ hv
  · rw [List.mem_singleton.mp hy]
    have ho1 : H p = some o := ho1
    exact ⟨hg, ⟨o, ho1, ok_mut ho2 (hm a)⟩, by simp, some_ne ho1⟩
  · obtain ⟨b, z, hb, rfl, m1, m2, m3⟩ := e
    obtain ⟨u, h3, h4⟩ := ro _ m2
    exact q v G' H' b z u hb st (fun x hx => by rw [List.mem_singleton.mp hx]; exact ro _ m1) (hw z m3).2 (hw z m3).1 h3 h4 hv'
end
section
variable {K : PySem.W.Frag} {Y : List Addr} {t : Tys} {O : Os} {W : List Addr} {p : Addr} {c : OC} {te : TE} {tr tk : TA} {tz : TS} {R : Rp} {Nx : Nxt} {Rt : Rts} {α β : Type}
/-- x = f(box, ..), the value holds a new object -/
theorem hs_setX {Rs : α → Addr → List Rp} {ca : α → OC} {pre : α → Prop} {Pf : α → β → Prop} {Rb : α → β → Addr → Rp} {cb : α → β → OC} {E : XK} {i k : Nat} (x : α) (ha : EaZ p c t O tr (Rs x p)) (hk : O[k]? = some (p, c)) (hy : p ∈ Y) (hc : ca x = c) (hp : pre x) (hm : c.may = true) (hmb : ∀ b, (cb x b).may = true)
    (kk : ∀ b q, Pf x b → HT Y (t.set i (some (Rb x b q))) ((q, cb x b) :: O) (q :: W) tz Nx Rt) : HT Y t O W (tSeq (tAsg (tCall (PrmX Rs ca pre Pf Rb cb) [] E tr) (gName i)) tz) Nx Rt := fun b s H ⟨G, a⟩ D n r =>
  ha (a.box hk hm) s G H a.ty a.ro a.sub (a.y p hy).1 _ fun vs G1 H1 s1 o1 hvs => by
    have a1 := a.stepZ hy (a.box hk hm) s1 o1
    refine ⟨x, G1, p, hp, by rw [List.append_nil]; exact hvs, fun e he => by rw [List.mem_singleton.mp he, hc]; exact o1 _ (List.mem_of_getElem? hk), (a1.y p hy).1, s1.sub, fun v G' H' b' q o hb st ro hq hg ho hok hv => ?_⟩
    rw [hc] at ro
    have a2 := a1.stepZ hy (a.box hk hm) st (RO.stepZ (a.box hk hm) o1 st ro)
    have hbq : b.H q = none := by
      cases z : b.H q with
      | none => rfl
      | some u => exact absurd hq (a1.st.all q (some_ne z))
    have nq : ∀ e ∈ O, e.1 ≠ q := fun e he ee => by
      obtain ⟨u, h1, _⟩ := a1.ro e he
      rw [ee, hq] at h1; cases h1
    have a3 : AtG Y b t ((q, cb x b') :: O) (q :: W) s H' G' := ⟨a2.ty, fun e he => by
      rcases List.mem_cons.mp he with z | z
      · rw [z]; exact ⟨o, ho, hok⟩
      · exact a2.ro e z, a2.st, fun z hz => by
      rcases List.mem_cons.mp hz with e | e
      · rw [e]; exact ⟨hg, ⟨o, ho, ok_mut hok (hmb b')⟩, hbq⟩
      · exact a2.w z e, a2.y, List.nodup_cons.mpr ⟨fun hm => by
      obtain ⟨e, he, ee⟩ := List.mem_map.mp hm
      exact nq e he ee, a2.nd⟩⟩
    exact kk b' q hb b _ _ ⟨G', a3.setTy hv⟩ D n r
end
end Rz
set_option Elab.async false
set_option linter.all false
set_option maxRecDepth 100000
set_option maxHeartbeats 4000000
/-! Rz24: loops whose bound changes an object. Own work. -/
namespace Rz
open PySem PySem.Spec L2
section
variable {K : PySem.W.Frag} {Y : List Addr} {t : Tys} {O : Os} {W : List Addr} {p : Addr} {c : OC} {te : TE} {tr tk : TA} {tb tz tu : TS} {g : TG} {R : Rp} {Nx : Nxt} {Rt : Rts} {β : Type} {P : β → Prop} {Rs : β → List Rp} {wi : TI}
def SrcZ (p : Addr) (c : OC) (t : Tys) (O : Os) (wi : TI) (P : β → Prop) (Rs : β → List Rp) : Prop := BoxIn p c O → ∀ s G H, Ty s t G → RO O G H → Sub G H → G p = none → ∀ Rk : It → Hp → Prop, (∀ J z G' H', P z → Step [p] G H G' H' → RO O G' H' → Src J (Rs z) G' → Rk J H') → wi s H Rk
theorem src_range1Z {f : β → Int} (h : EaZ p c t O tr [rEx P fun z => rInt (f z)]) (h1 : ∀ z, P z → -(2 ^ 62) ≤ f z) (h2 : ∀ z, P z → f z < 2 ^ 62) : SrcZ p c t O (iRng1 tr) P (fun z => (List.range (f z).toNat).map fun (i : Nat) => rInt (0 + (i : Int))) := fun hb s G H T o sb hg Rk q =>
  h hb s G H T o sb hg _ fun vs G' H' st ro hv => by
    match vs, hv with
    | [v], hv =>
      obtain ⟨z, hz, e⟩ := hv.1
      have e : v = .int (f z) := e
      subst e
      exact ⟨f z, rfl, h1 z hz, h2 z hz, q _ z G' H' hz st ro src_of_range⟩
theorem ht_forZ {k : Nat} (hl : SrcZ p c t O wi P Rs) (hk : O[k]? = some (p, c)) (hy : p ∈ Y) (hm : c.may = true) (I : β → Nat → Nxt) (h0 : ∀ z, P z → I z 0 t O W)
    (hs : ∀ z i R t1 O1 W1, P z → (Rs z)[i]? = some R → I z i t1 O1 W1 → ∃ t2 us, TgT g R t1 t2 us ∧ HT Y t2 O1 W1 tb (I z (i + 1)) Rt)
    (hd : ∀ z t1 O1 W1, P z → I z (Rs z).length t1 O1 W1 → Nx t1 O1 W1) : HT Y t O W (tFor wi g tb) Nx Rt := fun b s H ⟨G, a⟩ D nn r => by
  refine hl (a.box hk hm) s G H a.ty a.ro a.sub (a.y p hy).1 _ fun J z G1 H1 hz st ro src => ?_
  have a1 := a.stepZ hy (a.box hk hm) st ro
  let b1 : Bs := ⟨G1, b.H, b.X⟩
  let Pv : Nat → St → Hp → Prop := fun i s H => ∃ t1 O1 W1, I z i t1 O1 W1 ∧ At Y b1 t1 O1 W1 s H
  refine ⟨fun i m s H => m = (Rs z).length - i ∧ i ≤ (Rs z).length ∧ Pv i s H, ⟨_, rfl, Nat.zero_le _, t, O, W, h0 z hz, G1, a1.rebase⟩, ?_⟩
  rintro i m s2 H2 ⟨rfl, hi, t1, O1, W1, hI, G2, a2⟩
  by_cases hlt : i < (Rs z).length
  · refine .inr ⟨src.goes i H2 G2 hlt a2.st.gg a2.sub, Pv (i + 1), fun s' H' p' => ⟨(Rs z).length - (i + 1), by omega, rfl, hlt, p'⟩, fun x H3 y => ?_⟩
    obtain ⟨G3, s3, hx⟩ := src.yields i H2 G2 x H3 _ (List.getElem?_eq_getElem hlt) a2.st.gg a2.sub y
    obtain ⟨t2, us, tg, hb⟩ := hs z i _ t1 O1 W1 hz (List.getElem?_eq_getElem hlt) hI
    have a3 := a2.step s3
    refine tg x s2 G3 H3 hx a3.ty a3.sub _ fun s4 T4 _ => ?_
    refine hb b1 s4 H3 ⟨G3, T4, a3.ro, a3.st, a3.w, a3.y, a3.nd⟩ _ (fun t5 O5 W5 s5 H5 n5 a5 => ⟨t5, O5, W5, n5, a5⟩) fun R O5 W5 v G5 H5 hR st5 hv ho hw => ?_
    exact r R O5 W5 v G5 H5 hR (a1.st.rebase st5) hv ho hw
  · have e : i = (Rs z).length := by omega
    subst e
    exact .inl ⟨src.stops H2 G2 a2.st.gg a2.sub, nn t1 O1 W1 s2 H2 (hd z t1 O1 W1 hz hI) ⟨G2, a2.back a1.st⟩⟩
theorem hs_forZ {k : Nat} (hl : SrcZ p c t O wi P Rs) (hk : O[k]? = some (p, c)) (hy : p ∈ Y) (hm : c.may = true) (I : β → Nat → Nxt) (h0 : ∀ z, P z → I z 0 t O W)
    (hs : ∀ z i R t1 O1 W1, P z → (Rs z)[i]? = some R → I z i t1 O1 W1 → ∃ t2 us, TgT g R t1 t2 us ∧ HT Y t2 O1 W1 tb (I z (i + 1)) Rt)
    (hd : ∀ z t1 O1 W1, P z → I z (Rs z).length t1 O1 W1 → HT Y t1 O1 W1 tu Nx Rt) : HT Y t O W (tSeq (tFor wi g tb) tu) Nx Rt :=
  ht_seq (Nx := fun t1 O1 W1 => ∃ z, P z ∧ I z (Rs z).length t1 O1 W1) (ht_forZ hl hk hy hm I h0 hs fun z _ _ _ hz h => ⟨z, hz, h⟩) fun t1 O1 W1 ⟨z, hz, h⟩ => hd z t1 O1 W1 hz h
end
end Rz
set_option Elab.async false
set_option linter.all false
set_option maxRecDepth 100000
set_option maxHeartbeats 4000000
/-! Rz25: d[k] = a value whose reading changes another object; a call with a new object. Own work. -/
namespace Rz
open PySem PySem.Spec L2
section
variable {K : PySem.W.Frag} {Y : List Addr} {t : Tys} {O : Os} {W : List Addr} {p q : Addr} {c : OC} {tv td ty te : TE} {tr : TA} {R : Rp} {Nx : Nxt} {Rt : Rts} {β : Type} {P : β → Prop} {Rb : β → Rp}
theorem ht_dputTZ {m k : Nat} {r : List (List Key × Rp)} {j : List Key} (hv : EvZ p c t O tv (rEx P Rb)) (hm : O[m]? = some (p, c)) (hy : p ∈ Y) (hmay : c.may = true) (hd : EvT t O td (rRef q)) (hk : EvT t O ty (rKT j)) (hO : O[k]? = some (q, .dT r)) (hw : q ∈ W ∨ q ∈ Y) (hl : r.length < sizeLine) (h : ∀ z, P z → Nx t (O.set k (q, .dT (pk r j (Rb z)))) W) :
    HT Y t O W (sDPut td ty tv) Nx Rt := fun b s H ⟨G, a⟩ D n rr =>
  hv (a.box hm hmay) s G H a.ty a.ro a.sub (a.y p hy).1 _ fun v G1 H1 s1 ro ⟨z, hz, hv1⟩ => by
    have a1 := a.stepZ hy (a.box hm hmay) s1 ro
    exact hd s G1 H1 a1.ty a1.ro a1.sub _ fun x G2 H2 s2 hx => hk s G2 H2 (a1.step s2).ty (a1.step s2).ro s2.sub _ fun y G3 H3 s3 hy => by
      have a3 := (a1.step s2).step s3
      have hx : x = .ref q := hx
      subst hx
      obtain ⟨c, rfl, hc⟩ := rKT_at hy
      obtain ⟨u, h1, h2⟩ := a3.ro _ (List.mem_of_getElem? hO)
      cases u with
      | dT l =>
        refine ⟨q, _, rfl, .inr ⟨l, j, c, h1, rfl, s3.sub.at_ hc rfl, by rw [AllK.length h2]; exact hl, rfl⟩, ?_⟩
        exact n _ _ _ _ _ (h z hz) ⟨G3, a3.put hO hw h1 (AllK.put h2 ((Rb z).mono _ _ _ (s2.gg.trans s3.gg) hv1)) rfl⟩
      | _ => exact h2.elim
/-- f(a new object), changed within, then gone -/
theorem ev_callMN {α : Type} {Rs : α → Addr → List Rp} {ca : α → OC} {pre : α → Prop} {post : α → OC → Prop} {Rr : α → Rp} {E : XK} (x : α) (h : EvN t O te (ca x)) (hr : ∀ p, Rs x p = [rRef p]) (hp : pre x) :
    EvT t O (tCall (PrmM Rs ca (fun _ => []) pre post Rr) [] E (tCons te tNil)) (Rr x) := fun s G H T o sb Q q => by
  refine h s G H T o sb _ fun z u G1 H1 st hz hg hu hok => ?_
  refine ⟨x, G1, z, hp, by rw [hr]; exact ⟨rfl, trivial⟩, fun e he => ?_, by simp, hg, st.sub, fun v G' H' c' hc s2 ro hv => ?_⟩
  · rw [List.mem_singleton.mp he]; exact ⟨u, hu, hok⟩
  · refine q v G' H' ⟨st.gg.trans s2.gg, s2.sub, fun a o ha _ => ?_, fun a ha => s2.all a (st.all a ha), fun a ha => (s2.old a (st.nt a ha)).trans (st.old a ha), fun a ha => s2.nt a (st.nt a ha), fun a vs ha => s2.tt a vs (st.tt a vs ha)⟩ hv
    exact s2.hh a o (st.ex a o ha) fun m => by
      rw [List.mem_singleton.mp m, hz] at ha; cases ha
end
end Rz
set_option Elab.async false
set_option linter.all false
set_option maxRecDepth 100000
set_option maxHeartbeats 4000000
/-! Rz26: two or three names at once, where reading the values changes an object. Own work. -/
namespace Rz
open PySem PySem.Spec L2
section
variable {K : PySem.W.Frag} {Y : List Addr} {t : Tys} {O : Os} {W : List Addr} {p : Addr} {c cn : OC} {te ta tb tc : TE} {tr : TA} {tz : TS} {R R2 : Rp} {Nx : Nxt} {Rt : Rts} {β γ : Type} {P : β → Prop} {Q : γ → Prop} {Rb : β → Rp} {Rc : γ → Rp} {s : St} {b : Bs} {G H : Hp}
theorem atZ {k : Nat} {Q : VK} (h : EvZ p c t O te R) (a : AtG Y b t O W s H G) (hk : O[k]? = some (p, c)) (hy : p ∈ Y) (hm : c.may = true) (q : ∀ v G1 H1, AtG Y b t O W s H1 G1 → Ex G G1 → R.p v G1 → Q v H1) : te s H Q :=
  h (a.box hk hm) s G H a.ty a.ro a.sub (a.y p hy).1 Q fun v G' H' st ro hv => q v G' H' (a.stepZ hy (a.box hk hm) st ro) st.gg hv
theorem hs_parZZ {k i j : Nat} (h1 : EvZ p c t O ta (rEx P Rb)) (h2 : EvZ p c t O tb (rEx Q Rc)) (hk : O[k]? = some (p, c)) (hy : p ∈ Y) (hm : c.may = true := by rfl) (kk : ∀ z y, P z → Q y → HT Y ((t.set i (some (Rb z))).set j (some (Rc y))) O W tz Nx Rt) :
    HT Y t O W (tSeq (tPar i j (tCons ta (tCons tb tNil))) tz) Nx Rt := fun b s H ⟨G, a⟩ D n r =>
  atZ (te := ta) h1 a hk hy hm fun v G1 H1 a1 e1 ⟨z, hz, hv⟩ => atZ (te := tb) h2 a1 hk hy hm fun w G2 H2 a2 e2 ⟨y, hy, hw⟩ => ⟨v, w, rfl, kk z y hz hy b _ _ ⟨G2, (a2.setTy ((Rb z).mono _ _ _ e2 hv)).setTy hw⟩ D n r⟩
theorem hs_tupZN {k i j : Nat} (h1 : EvZ p c t O ta (rEx P Rb)) (h2 : EvN t O tb cn) (hk : O[k]? = some (p, c)) (hy : p ∈ Y) (hm : c.may = true := by rfl) (hn : cn.may = true := by rfl) (kk : ∀ z q, P z → HT Y ((t.set i (some (Rb z))).set j (some (rRef q))) ((q, cn) :: O) (q :: W) tz Nx Rt) :
    HT Y t O W (tSeq (tAsg (tTup (tCons ta (tCons tb tNil))) (gTup K 2 (gCons (gName i) (gCons (gName j) gNil)))) tz) Nx Rt := fun b s H ⟨G, a⟩ D n r =>
  atZ (te := ta) h1 a hk hy hm fun v G1 H1 a1 e1 ⟨z, hz, hv⟩ => atN (te := tb) h2 hn a1 fun q G2 H2 a2 e2 => asg2 (tz := tz) (D := D) a2 ((Rb z).mono _ _ _ e2 hv) (R2 := rRef q) rfl (kk z q hz) n r
/-- i, j, l = (u, v, w), by way of a tuple -/
theorem asg3 {i j l : Nat} {u v w : V} {R1 R2 R3 : Rp} {D : Ends} (a : AtG Y b t O W s H G) (hu : R1.p u G) (hv : R2.p v G) (hw : R3.p w G) (kk : HT Y (((t.set i (some R1)).set j (some R2)).set l (some R3)) O W tz Nx Rt)
    (n : ∀ t' O' W' s' H', Nx t' O' W' → At Y b t' O' W' s' H' → D.nx s' H') (r : ∀ R O' W' v G' H', Rt R O' W' → Step b.X b.G b.H G' H' → R.p v G' → RO O' G' H' → (∀ a ∈ W', G' a = none ∧ b.H a = none) → D.rt v H') :
    [u, v, w].length ≤ sizeLine ∧ ∀ p, H p = none → gTup K 3 (gCons (gName i) (gCons (gName j) (gCons (gName l) gNil))) (.ref p) s (upd H p (.tup [u, v, w])) (tz D) :=
  ⟨by show 3 ≤ sizeLine; decide, fun p hp => ⟨p, [u, v, w], rfl, SqT.of upd_same, rfl, u, [v, w], rfl, v, [w], rfl, w, [], rfl, rfl, by
    have a1 := (((a.step (Step.newH (o := .tup [u, v, w]) a.sub hp)).setTy (i := i) hu).setTy (i := j) hv).setTy (i := l) hw
    exact kk b _ _ ⟨G, a1⟩ D n r⟩⟩
theorem hs_tup3ZTN {k i j l : Nat} (h1 : EvZ p c t O ta (rEx P Rb)) (h2 : EvT t O tb R2) (h3 : EvN t O tc cn) (hk : O[k]? = some (p, c)) (hy : p ∈ Y) (hm : c.may = true := by rfl) (hn : cn.may = true := by rfl) (kk : ∀ z q, P z → HT Y (((t.set i (some (Rb z))).set j (some R2)).set l (some (rRef q))) ((q, cn) :: O) (q :: W) tz Nx Rt) :
    HT Y t O W (tSeq (tAsg (tTup (tCons ta (tCons tb (tCons tc tNil)))) (gTup K 3 (gCons (gName i) (gCons (gName j) (gCons (gName l) gNil))))) tz) Nx Rt := fun b s H ⟨G, a⟩ D n r =>
  atZ (te := ta) h1 a hk hy hm fun v G1 H1 a1 e1 ⟨z, hz, hv⟩ => atT (te := tb) h2 a1 fun w G2 H2 a2 e2 hw => atN (te := tc) h3 hn a2 fun q G3 H3 a3 e3 => asg3 (tz := tz) (D := D) a3 ((Rb z).mono _ _ _ e3 ((Rb z).mono _ _ _ e2 hv)) (R2.mono _ _ _ e3 hw) (R3 := rRef q) rfl (kk z q hz) n r
end
end Rz
set_option Elab.async false
set_option linter.all false
set_option maxRecDepth 100000
set_option maxHeartbeats 4000000
/-! Rz27: the call of such a def, arguments known in part; rearrangements. Own work. -/
namespace Rz
open PySem PySem.Spec L2
section
variable {K : PySem.W.Frag} {Y : List Addr} {t : Tys} {O : Os} {W : List Addr} {p : Addr} {c : OC} {te : TE} {tr tk : TA} {tz : TS} {R : Rp} {Nx : Nxt} {Rt : Rts} {α β : Type}
/-- the same, the arguments known in part -/
theorem hs_setXE {Rs : α → Addr → List Rp} {ca : α → OC} {pre : α → Prop} {Pf : α → β → Prop} {Rb : α → β → Addr → Rp} {cb : α → β → OC} {E : XK} {i k : Nat} {Ra : List Rp} {Z : α → Prop} (ha : EaZ p c t O tr Ra) (hx : ∀ vs G, All2 vs Ra G → ∃ x, Z x ∧ All2 vs (Rs x p) G) (hk : O[k]? = some (p, c)) (hy : p ∈ Y) (hc : ∀ x, ca x = c) (hp : ∀ x, Z x → pre x) (hm : c.may = true) (hmb : ∀ x b, (cb x b).may = true)
    (kk : ∀ x b q, Z x → Pf x b → HT Y (t.set i (some (Rb x b q))) ((q, cb x b) :: O) (q :: W) tz Nx Rt) : HT Y t O W (tSeq (tAsg (tCall (PrmX Rs ca pre Pf Rb cb) [] E tr) (gName i)) tz) Nx Rt := fun b s H ⟨G, a⟩ D n r =>
  ha (a.box hk hm) s G H a.ty a.ro a.sub (a.y p hy).1 _ fun vs G1 H1 s1 o1 hvs => by
    obtain ⟨x, hZ, hvs⟩ := hx vs G1 hvs
    have a1 := a.stepZ hy (a.box hk hm) s1 o1
    refine ⟨x, G1, p, hp x hZ, by rw [List.append_nil]; exact hvs, fun e he => by rw [List.mem_singleton.mp he, hc x]; exact o1 _ (List.mem_of_getElem? hk), (a1.y p hy).1, s1.sub, fun v G' H' b' q o hb st ro hq hg ho hok hv => ?_⟩
    rw [hc x] at ro
    have a2 := a1.stepZ hy (a.box hk hm) st (RO.stepZ (a.box hk hm) o1 st ro)
    have hbq : b.H q = none := by
      cases z : b.H q with
      | none => rfl
      | some u => exact absurd hq (a1.st.all q (some_ne z))
    have nq : ∀ e ∈ O, e.1 ≠ q := fun e he ee => by
      obtain ⟨u, h1, _⟩ := a1.ro e he
      rw [ee, hq] at h1; cases h1
    have a3 : AtG Y b t ((q, cb x b') :: O) (q :: W) s H' G' := ⟨a2.ty, fun e he => by
      rcases List.mem_cons.mp he with z | z
      · rw [z]; exact ⟨o, ho, hok⟩
      · exact a2.ro e z, a2.st, fun z hz => by
      rcases List.mem_cons.mp hz with e | e
      · rw [e]; exact ⟨hg, ⟨o, ho, ok_mut hok (hmb x b')⟩, hbq⟩
      · exact a2.w z e, a2.y, List.nodup_cons.mpr ⟨fun hm => by
      obtain ⟨e, he, ee⟩ := List.mem_map.mp hm
      exact nq e he ee, a2.nd⟩⟩
    exact kk x b' q hZ hb b _ _ ⟨G', a3.setTy hv⟩ D n r
end
theorem perm_map_inv {α β : Type} {f : α → β} {ss ms : List β} (h : ss.Perm ms) : ∀ ns : List α, ms = ns.map f → ∃ l : List α, l.Perm ns ∧ ss = l.map f := by
  induction h with
  | nil => intro ns e; exact ⟨[], by rw [List.map_eq_nil_iff.mp e.symm], rfl⟩
  | cons x _ ih =>
    intro ns e
    cases ns with
    | nil => simp at e
    | cons n ns =>
      injection e with e1 e2
      obtain ⟨l, h1, h2⟩ := ih ns e2
      exact ⟨n :: l, h1.cons n, by rw [h2, e1]; rfl⟩
  | swap x y l =>
    intro ns e
    match ns, e with
    | a :: b :: ns, e =>
      injection e with e1 e2
      injection e2 with e2 e3
      exact ⟨b :: a :: ns, List.Perm.swap a b ns, by rw [e1, e2, e3]; rfl⟩
  | trans _ _ ih1 ih2 =>
    intro ns e
    obtain ⟨l, h1, h2⟩ := ih2 ns e
    obtain ⟨m, h3, h4⟩ := ih1 l h2
    exact ⟨m, h3.trans h1, h4⟩
end Rz
set_option Elab.async false
set_option linter.all false
set_option maxRecDepth 100000
set_option maxHeartbeats 4000000
/-! Rz28: less is known; keyword calls that give a new object; an index that is drawn. Own work. -/
namespace Rz
open PySem PySem.Spec L2
section
variable {K : PySem.W.Frag} {Y : List Addr} {t : Tys} {O O' : Os} {W W' : List Addr} {p : Addr} {c : OC} {te : TE} {tr tk : TA} {ts : TS} {R : Rp} {Nx : Nxt} {Rt : Rts} {α β : Type}
theorem HT.weakO (h : HT Y t O' W' ts Nx Rt) (h1 : ∀ e ∈ O', e ∈ O) (h2 : ∀ p ∈ W', p ∈ W) (nd : (O.map (·.1)).Nodup → (O'.map (·.1)).Nodup) : HT Y t O W ts Nx Rt := fun b s H ⟨G, a⟩ D n r => h b s H ⟨G, a.any a.ty h1 h2 (nd a.nd)⟩ D n r
theorem nd_app {X : Os} (h : ((X ++ O).map (·.1)).Nodup) : (O.map (·.1)).Nodup := by
  rw [List.map_append] at h
  exact (List.nodup_append.mp h).2.1
theorem HT.weakX {X : Os} (h : HT Y t O [] ts Nx Rt) : HT Y t (X ++ O) W ts Nx Rt := h.weakO (fun e he => List.mem_append.mpr (.inr he)) (by simp) nd_app
theorem en_callNK {Rs : α → List Rp} {Oa : α → Os} {pre : α → Prop} {post : α → OC → Prop} {E : XK} {n m : Nat} {gV : List V → List V → List V} {Rv Rk : List Rp} (x : α) (c : OC) (hc : ∀ c', post x c' → c' = c) (ha : EvA t O tr Rv) (hk : EvA t O tk Rk) (hn : Rv.length = n) (hm : Rk.length = m)
    (hg : ∀ vs zs G, All2 vs Rv G → All2 zs Rk G → All2 (gV vs zs) (Rs x) G) (hp : pre x) (ho : ∀ e ∈ Oa x, e ∈ O := by simp) : EvN t O (tCallN n m (PrmN Rs Oa pre post) gV E tr tk) c := fun s G H T o sb Q q =>
  ha s G H T o sb _ fun vs G1 H1 s1 hvs => hk s G1 H1 (T.mono s1.gg) (o.step s1.gg s1.ex) s1.sub _ fun zs G2 H2 s2 hzs =>
    ⟨hvs.length.trans hn, hzs.length.trans hm, x, G2, hp, hg vs zs G2 (hvs.mono s2.gg) hzs, fun e he => ((o.step s1.gg s1.ex).step s2.gg s2.ex) e (ho e he), s2.sub, fun y o2 c' G' H' hc' st h1 h2 h3 h4 => by
      have e := hc c' hc'
      subst e
      refine q y o2 G' H' ((s1.trans s2).trans st) ?_ h2 h3 h4
      cases z : H y with
      | none => rfl
      | some u => rw [s2.ex y u (s1.ex y u z)] at h1; cases h1⟩
/-- xs[d], d drawn -/
theorem vo_ixLd {O : Os} {xs : List α} {f : α → Rp} {P : Int → Prop} (h : ∀ d, P d → 0 ≤ d ∧ d < (xs.length : Int)) : VO O (rIxL K) (rLst (xs.map f)) (rEx P fun d => rInt d) (rEx (fun x => x ∈ xs) f) := VO.exR fun d hd => by
  have hj : d.toNat < xs.length := by have := h d hd; omega
  exact VO.intro xs[d.toNat] (List.getElem_mem hj) (vo_ixL (j := d.toNat) (by have := h d hd; omega) (by rw [List.getElem?_map, List.getElem?_eq_getElem hj]; rfl))
end
end Rz
set_option Elab.async false
set_option linter.all false
set_option maxRecDepth 100000
set_option maxHeartbeats 4000000
/-! Rz29: the script: a list that nobody changes, laid or frozen; a call whose value is a new object, its argument known in part. Own work. -/
namespace Rz
open PySem PySem.Spec L2
theorem sql_ex {K : PySem.W.Frag} {G G' : Hp} {a : Addr} {xs : List V} (e : Ex G G') (h : SqL K G a xs) : SqL K G' a xs := by
  rcases h with (h | ⟨o, h⟩) | h
  · exact .inl (.inl (e _ _ h))
  · exact .inl (.inr ⟨o, e _ _ h⟩)
  · exact .inr h
theorem sql_sub {K : PySem.W.Frag} {G H : Hp} {a : Addr} {xs : List V} (s : Sub G H) (h : SqL K G a xs) : SqL K H a xs := by
  rcases h with (h | ⟨o, h⟩) | h
  · exact .inl (.inl (s.at_ h rfl))
  · exact .inl (.inr ⟨o, s.at_ h rfl⟩)
  · exact .inr h
def rScr (K : PySem.W.Frag) (ns : List Int) : Rp := ⟨fun v G => ∃ a, v = .ref a ∧ SqL K G a (ns.map V.int), fun _ _ _ e ⟨a, h1, h2⟩ => ⟨a, h1, sql_ex e h2⟩⟩
theorem rScr_at {K : PySem.W.Frag} {ns : List Int} {v : V} {G : Hp} (h : (rScr K ns).p v G) : ∃ a, v = .ref a ∧ SqL K G a (ns.map V.int) := h
section
variable {K : PySem.W.Frag} {Y : List Addr} {t : Tys} {O : Os} {W : List Addr} {p : Addr} {c : OC} {te th : TE} {tr tk : TA} {ts : TS} {R : Rp} {Nx : Nxt} {Rt : Rts} {α β : Type} {ns : List Int}
theorem all2_one {vs : List V} {R : Rp} {G : Hp} (h : All2 vs [R] G) : ∃ v, vs = [v] ∧ R.p v G := match vs, h with
  | [v], h => ⟨v, rfl, h.1⟩
theorem vc_lenScr : VC O (fun xs H Q => ∃ p ys, xs = [.ref p] ∧ (SqL K H p ys ∨ SqT K H p ys) ∧ Q (.int ys.length) H) [rScr K ns] (rInt ns.length) := VC.val fun G H vs hx _ sb => by
  obtain ⟨v, rfl, hx1⟩ := all2_one hx
  obtain ⟨a, rfl, h⟩ := rScr_at hx1
  exact ⟨_, fun _ q => ⟨a, _, rfl, .inl (sql_sub sb h), q⟩, by rw [List.length_map]; rfl⟩
theorem vo_ixScr {i : Int} {j : Nat} {n : Int} (e : i = (j : Int)) (h : ns[j]? = some n) : VO O (rIxL K) (rScr K ns) (rInt i) (rInt n) := VO.val fun G H x y hx hy _ sb => by
  obtain ⟨a, rfl, h2⟩ := rScr_at hx
  exact ⟨.int n, fun _ q => ⟨a, _, i, .int n, rfl, hy, sql_sub sb h2, at_of e (by rw [List.getElem?_map, h]; rfl), q⟩, rfl⟩
theorem ev_toScr {n : Int} {j : Nat} (h : EvT t O te (rScr K ns)) (hn : EvT t O th (rInt n)) (e : n = (j : Int)) : EvT t O (tSl (rSlL K) te tNoPart (tPart th)) (rLI (ns.take j)) := fun s G H T o sb Q q => h s G H T o sb _ fun v G1 H1 s1 hv => by
  obtain ⟨a, rfl, h1⟩ := rScr_at hv
  subst e
  refine hn s G1 H1 (T.mono s1.gg) (o.step s1.gg s1.ex) s1.sub _ fun y G2 H2 s2 hy => ?_
  have s12 := s1.trans s2
  refine ⟨j, hy, a, _, rfl, sql_sub s2.sub (sql_ex s2.gg h1), fun l hl => ?_⟩
  rw [cutV_to, ← List.map_take]
  exact q _ _ _ (s12.trans (Step.new s2.sub hl)) (rLI_of upd_same)
theorem en_callNE {Rs : α → List Rp} {Oa : α → Os} {pre : α → Prop} {post : α → OC → Prop} {E : XK} {Ra : List Rp} (c : OC) (hc : ∀ x c', post x c' → c' = c) (ha : EvA t O tr Ra) (hx : ∀ vs G, All2 vs Ra G → ∃ x, pre x ∧ Oa x = [] ∧ All2 vs (Rs x) G) : EvN t O (tCall (PrmN Rs Oa pre post) [] E tr) c := fun s G H T o sb Q q =>
  ha s G H T o sb _ fun vs G1 H1 s1 hvs => by
    obtain ⟨x, hp, ho, hvs⟩ := hx vs G1 hvs
    refine ⟨x, G1, hp, by rw [List.append_nil]; exact hvs, fun e he => by rw [ho] at he; simp at he, s1.sub, fun p u c' G' H' hc' st hp hg hu hok => ?_⟩
    have e := hc x c' hc'
    subst e
    refine q p u G' H' (s1.trans st) ?_ hg hu hok
    cases z : H p with
    | none => rfl
    | some u => rw [s1.ex p u z] at hp; cases hp
end
end Rz
set_option Elab.async false
set_option linter.all false
set_option maxRecDepth 100000
set_option maxHeartbeats 4000000
/-! Rz30: places picked out of a list; own methods; == by an own __eq__. Own work. -/
namespace Rz
open PySem PySem.Spec L2
def pick {α : Type} (is : List Nat) (l : List α) : List α := is.filterMap fun i => l[i]?
theorem vals_at : ∀ {vs : List V} {us : List Value} (i : Nat), Vals vs us → (vs[i]? = none ∧ us[i]? = none) ∨ ∃ v u, vs[i]? = some v ∧ us[i]? = some u ∧ RelV v u
  | [], [], i, _ => .inl ⟨by simp, by simp⟩
  | v :: vs, u :: us, 0, h => by
    cases h with
    | cons h1 h2 => exact .inr ⟨v, u, rfl, rfl, h1⟩
  | v :: vs, u :: us, i + 1, h => by
    cases h with
    | cons h1 h2 => simpa using vals_at i h2
  | [], _ :: _, _, h => by cases h
  | _ :: _, [], _, h => by cases h
theorem vals_pick {vs : List V} {us : List Value} (h : Vals vs us) : ∀ is : List Nat, Vals (pick is vs) (pick is us)
  | [] => .nil
  | i :: is => by
    have ih := vals_pick h is
    unfold pick at ih ⊢
    rcases vals_at i h with ⟨h1, h2⟩ | ⟨v, u, h1, h2, h3⟩
    · rw [List.filterMap_cons_none h1, List.filterMap_cons_none h2]; exact ih
    · rw [List.filterMap_cons_some h1, List.filterMap_cons_some h2]; exact .cons h3 ih
theorem all2_pick {vs : List V} {Rs : List Rp} {G : Hp} (h : All2 vs Rs G) : ∀ is : List Nat, All2 (pick is vs) (pick is Rs) G
  | [] => trivial
  | i :: is => by
    have ih := all2_pick h is
    unfold pick at ih ⊢
    cases hv : vs[i]? with
    | none =>
      have hR : Rs[i]? = none := by
        rw [List.getElem?_eq_none_iff] at hv ⊢
        rw [← h.length]; exact hv
      rw [List.filterMap_cons_none hv, List.filterMap_cons_none hR]; exact ih
    | some v =>
      obtain ⟨R, hR, h3⟩ := h.getV hv
      rw [List.filterMap_cons_some hv, List.filterMap_cons_some hR]; exact ⟨h3, ih⟩
theorem all2_kw {vs zs : List V} {Rv Rk : List Rp} {G : Hp} (is : List Nat) (h1 : All2 vs Rv G) (h2 : All2 zs Rk G) : All2 (vs ++ pick is zs) (Rv ++ pick is Rk) G := h1.app (all2_pick h2 is)
/-! ### own methods -/
section
variable {K : PySem.W.Frag} {t : Tys} {O : Os} {ta tb : TE} {tr : TA} {R : Rp}
theorem ev_meth {α : Type} {Rs : α → List Rp} {Oa : α → Os} {pre : α → Prop} {Rr : α → Rp} {E : XK} {C : Addr} {m : Str} {fs : List (Str × Rp)} {Ra : List Rp} (x : α) (hs : EvT t O ta (rIns C fs)) (ha : EvA t O tr Ra) (hR : Rs x = rIns C fs :: Ra) (hm : fs.lookup m = none) (hp : pre x) (ho : ∀ e ∈ Oa x, e ∈ O := by simp) : EvT t O (tMeth C m (Prm Rs Oa pre Rr) [] E ta tr) (Rr x) := fun s G H T o sb Q q =>
  hs s G H T o sb _ fun v G1 H1 s1 ⟨a, dx, l, e, h1, h2⟩ => by
    have look : ∀ {l : List (Str × V)} {fs : List (Str × Rp)}, AllK l fs G1 → fs.lookup m = none → l.lookup m = none := by
      intro l
      induction l with
      | nil => intro fs _ _; rfl
      | cons p l ih =>
        intro fs h hl
        match fs, h, hl with
        | q :: fs, h, hl =>
          obtain ⟨a, v⟩ := p
          obtain ⟨a', S⟩ := q
          have e1 : a = a' := h.1.1
          subst e1
          rw [List.lookup_cons] at hl ⊢
          cases hf : m == a with
          | true => rw [hf] at hl; cases hl
          | false => rw [hf] at hl; exact ih h.2 hl
    refine ⟨a, dx, l, e, s1.sub.at_ h1 rfl, look h2 hm, ?_⟩
    refine ha s G1 H1 (T.mono s1.gg) (o.step s1.gg s1.ex) s1.sub _ fun vs G2 H2 s2 hvs => ?_
    have s12 := s1.trans s2
    refine ⟨x, G2, hp, ?_, fun e he => (o.step s12.gg s12.ex) e (ho e he), s12.sub, fun v G' H' st hv => q v G' H' (s12.trans st) hv⟩
    rw [hR, List.append_nil]
    exact ⟨(rIns C fs).mono _ _ _ s2.gg ⟨a, dx, l, e, h1, h2⟩, hvs⟩
end
end Rz
set_option Elab.async false
set_option linter.all false
set_option maxRecDepth 100000
set_option maxHeartbeats 4000000
/-! Rz31: dicts whose order is not known, heads of tuples, isinstance of an own class, making, == by an own __eq__. Own work. -/
namespace Rz
open PySem PySem.Spec L2
section
variable {X : Cx} (K : PySem.W.Frag)
theorem sl_tupAK (e : X.K = K := by rfl) : SlR X (rSlA K) := e ▸ sl_tupA
theorem sl_listK (e : X.K = K := by rfl) : SlR X (rSlL K) := e ▸ sl_list
end
section
variable {K : PySem.W.Frag} {t : Tys} {O : Os} {te td ty tx th : TE} {tr : TA} {R Rx : Rp} {Rs : List Rp} {β : Type} {P : β → Prop}
theorem ev_dget2TE {r : β → List (List Key × Rp)} {k : List Key} (hd : EvT t O td (rEx P fun b => rDT (r b))) (hk : EvT t O ty (rKT k)) (hx : EvT t O tx Rx) (hR : ∀ b, P b → (lk (r b) k).getD Rx = R) : EvT t O (tDGet2 td ty tx) R := fun s G H T o sb Q q =>
  hd s G H T o sb _ fun x G1 H1 s1 ⟨z, hz, hx1⟩ => by
    obtain ⟨a, l, rfl, h0, h2⟩ := hx1
    have h1 : Rd H1 a (.dT l) := s1.sub.rd h0
    refine ⟨a, rfl, .inr ⟨l, h1⟩, hk s G1 H1 (T.mono s1.gg) (o.step s1.gg s1.ex) s1.sub _ fun y G2 H2 s2 hy => ?_⟩
    have s12 := s1.trans s2
    refine hx s G2 H2 (T.mono s12.gg) (o.step s12.gg s12.ex) s2.sub _ fun w G3 H3 s3 hw => ?_
    have s13 := s12.trans s3
    obtain ⟨b, rfl, hb⟩ := rKT_at hy
    have h1' : Rd H3 a (.dT l) := by
      rcases h1 with h1 | ⟨od, h1⟩
      · exact .inl (s3.ex _ _ (s2.ex _ _ h1))
      · exact .inr ⟨od, s3.ex _ _ (s2.ex _ _ h1)⟩
    refine ⟨valV l k, .inr ⟨l, k, b, h1', rfl, s3.sub.at_ (s3.gg _ _ hb) rfl, rfl⟩, ?_⟩
    cases hl : lk (r z) k with
    | none =>
      rw [h2.lk.2 hl]
      have e : Rx = R := by rw [← hR z hz, hl]; rfl
      exact q w G3 H3 s13 (e ▸ hw)
    | some R1 =>
      obtain ⟨v, h3, h4⟩ := h2.lk.1 R1 hl
      rw [h3]
      have e : R1 = R := by rw [← hR z hz, hl]; rfl
      exact q v G3 H3 s13 (e ▸ R1.mono _ _ _ (s2.gg.trans s3.gg) h4)
/-- xs[:k], a tuple -/
theorem ev_toT {n : Int} {j : Nat} (h : EvT t O te (rTup Rs)) (hn : EvT t O th (rInt n)) (e : n = (j : Int)) : EvT t O (tSl (rSlA K) te tNoPart (tPart th)) (rTup (Rs.take j)) := fun s G H T o sb Q q => h s G H T o sb _ fun v G1 H1 s1 hv => by
  obtain ⟨a, vs, rfl, h1, h2⟩ := hv
  subst e
  refine hn s G1 H1 (T.mono s1.gg) (o.step s1.gg s1.ex) s1.sub _ fun y G2 H2 s2 hy => ?_
  have s12 := s1.trans s2
  refine ⟨j, hy, a, vs, rfl, s2.sub.tup (s2.gg _ _ h1), fun w => ?_, fun _ l hl => ?_⟩
  · have hz : vs.length ≤ j := by
      have w1 := w.2
      rw [HT.sIx_nat] at w1; omega
    have e2 : Rs.take j = Rs := List.take_of_length_le (by rw [← h2.length]; exact hz)
    refine q _ _ _ s12 ⟨a, vs, rfl, s2.gg _ _ h1, ?_⟩
    rw [e2]; exact h2.mono s2.gg
  · rw [cutV_to]
    exact q _ _ _ (s12.trans (Step.new s2.sub hl)) ⟨l, _, rfl, upd_same, ((h2.mono s2.gg).take j).mono (Ex.new (s2.sub.none hl))⟩
theorem vc_isC {C : Addr} {fs : List (Str × Rp)} : VC O (fun xs H Q => ∃ a dx fs, xs = [.ref a, .ref C] ∧ H a = some (.ins C dx fs) ∧ Q (.bl true) H) [rIns C fs, rRef C] (rBl true) := VC.val fun G H vs hx _ sb => by
  match vs, hx with
  | [v, w], hx =>
    obtain ⟨⟨a, dx, l, rfl, h1, _⟩, e, _⟩ := hx
    have e : w = .ref C := e
    subst e
    exact ⟨_, fun _ q => ⟨a, dx, l, rfl, sb.at_ h1 rfl, q⟩, rfl⟩
theorem ev_makeE {α γ : Type} {C : Addr} {Rs : α → List Rp} {pre : α → Prop} {Pf : α → γ → Prop} {fs : α → γ → List (Str × Rp)} {E : XK} {dvs : List V} {Ra : List Rp} (x : α) (ha : EvA t O tr Ra) (hd : ∀ vs G, All2 vs Ra G → All2 (vs ++ dvs) (Rs x) G) (hp : pre x) : EvT t O (tMake C (PrmIE C Rs pre Pf fs) dvs E tr) (rEx (Pf x) fun b => rIns C (fs x b)) := fun s G H T o sb Q q =>
  ha s G H T o sb _ fun vs G1 H1 s1 hvs y dx hy hdx ne => madeE x hp s1.sub (hd vs G1 hvs) (fun v G' H' st hv => q v G' H' (s1.trans st) hv) hy hdx ne
/-! ### == by an own __eq__ -/
/-- two that stand for the same of a kind -/
def SameR {α : Type} (pre : α → Prop) (R : α → Rp) (a b : Addr) (H : Hp) : Prop := ∃ x G, pre x ∧ Sub G H ∧ (R x).p (.ref a) G ∧ (R x).p (.ref b) G
theorem fn_eq {Pg : Program} {w : World} {mg : Str → Option Value} {base : Heap} {k : Nat} {f : Addr} {fd : FuncData} {ps : List Str} {α : Type} {pre : α → Prop} {R : α → Rp} (F : FnOk Pg w K mg base CX0 k f fd ps (Prm (fun x => [R x, R x]) (fun _ => []) pre (fun _ => rBl true))) :
    FnOk Pg w K mg base CX0 k f fd ps (spEq (SameR pre R)) := by
  have imp : ∀ vs H (Q : VK) E, spEq (SameR pre R) vs H Q E → Prm (fun x => [R x, R x]) (fun _ => []) pre (fun _ => rBl true) vs H Q E := fun vs H Q E ⟨a, b, e, ⟨x, G, hp, sb, h1, h2⟩, q⟩ => by
    subst e
    refine ⟨x, G, hp, ⟨h1, h2, trivial⟩, fun e he => by simp at he, sb, fun v G' H' st hv => ?_⟩
    have hv : v = .bl true := hv
    rw [hv]
    exact q H' fun a u e => st.ex a u e
  exact ⟨fun vs H Q E h => F.len vs H Q E (imp vs H Q E h), fun A st s H args us vs Q E r e b v h => F.run A st s H args us vs Q E r e b v (imp vs H Q E h)⟩
theorem vo_eqG {α : Type} {pre : α → Prop} {C : Addr} {R : α → Rp} (hR : ∀ x v G, (R x).p v G → ∃ a dx l, v = .ref a ∧ G a = some (.ins C dx l)) (x : α) (hp : pre x) : VO O (rEqG (DIns C (SameR pre R))) (R x) (R x) (rBl true) := fun G H u v hu hv _ sb Q q => by
  obtain ⟨a, dx, l, rfl, ha⟩ := hR x u G hu
  obtain ⟨b, dy, m, rfl, hb⟩ := hR x v G hv
  refine ⟨⟨a, b, dx, dy, l, m, rfl, rfl, sb.at_ ha rfl, sb.at_ hb rfl, x, G, hp, sb, hu, hv⟩, fun H' e => ?_⟩
  exact q _ G H' (Step.of (Ex.refl _) (sb.ex fun a u h => e a u h) (fun a u h => e a u h) fun _ _ => rfl) rfl
end
end Rz
set_option Elab.async false
set_option linter.all false
set_option maxRecDepth 100000
set_option maxHeartbeats 4000000
/-! Rz32: the items of a dict by tuple keys. Own work. -/
namespace Rz
open PySem PySem.Spec L2
section
variable {X : Cx} {pins : List (Addr × Obj)} {σ : St} {H : Hp} {s : Shared} {d : Addr} {o : Obj}
theorem frzTv {kvs : List (List Key × V)} (I : Inv X pins σ H s) (h : H d = some (.frz o (.dT kvs))) :
    (d == sysModules) = false ∧ s.heap.get? d = some o ∧ o.ExactDict ∧ ∃ (es : Array DictEntry) (ep : Nat), o.data = .dict es ep ∧ es.size = kvs.length ∧
      ∀ (i : Nat) (k : List Key) (v : V), kvs[i]? = some (k, v) → ∃ (en : DictEntry) (q : Addr), es[i]? = some en ∧ en.key = .ref q ∧ H q = some (.tup (k.map kV)) ∧ RelV v en.val := by
  obtain ⟨hd, z, hs, xs, pr, o', es, ep, ho, hx, hdt, he, _⟩ := I.hok d _ h
  rw [hd] at ho
  cases ho
  refine ⟨hs, hd, hx, es, ep, hdt, ?_, fun i k v e => ?_⟩
  · have l1 : es.size = xs.length := size_of_entries he
    have l2 : kvs.length = xs.length := Paired.length pr
    omega
  · obtain ⟨b, hb, e1, e2, e3⟩ := paired_get pr e
    have q := entry_at he i
    rw [hb] at q
    exact ⟨_, b.2.1, q, rfl, e2, e3⟩
end
/-- the pairs (key, value) of the locked dict at d, by tuple keys, each a new tuple -/
def Itti (d : Addr) (o : Obj) (kvs : List (List Key × V)) : It :=
  ⟨fun i H => H d = some (.frz o (.dT kvs)) ∧ i < kvs.length, fun i H x H' => ∃ T k v q, kvs[i]? = some (k, v) ∧ x = .ref T ∧ H T = none ∧ H q = some (.tup (k.map kV)) ∧ H' = upd H T (.tup [.ref q, v]), fun i H => H d = some (.frz o (.dT kvs)) ∧ kvs.length ≤ i⟩
section
variable {P : Program} {w : World} {K : PySem.W.Frag} {d : Addr} {o : Obj} {es : Array DictEntry} {ep : Nat}
theorem turn_itemsT {kvs : List (List Key × V)} {elts : List Expr} {kk : Nat} {tpos : Pos} (it : Addr) (hod : o.data = .dict es ep) :
    Turn P w K (.Tuple elts kk tpos) (Itti d o kvs) [it] it (fun i h => ∃ ok ov, IsItemIter h it d i kvs.length ep ok ov) where
  mem := by simp
  obj := fun i h st b hb => by
    have e : b = it := by simpa using hb
    subst e
    obtain ⟨ok, ov, e⟩ := st
    exact ⟨_, e, fun v z => nomatch z⟩
  keep := fun i h h' st k => let ⟨ok, ov, e⟩ := st; ⟨ok, ov, k it (by simp) _ e⟩
  item := by
    intro X hP hw hK hc i pins s σ H E I hf st hg
    subst hP hw hK
    obtain ⟨hd, hi⟩ := hg
    obtain ⟨hs, hgd, hx, es', ep', hdt, hsz, ent⟩ := frzTv I hd
    obtain ⟨rfl, rfl⟩ := dict_ep hod hdt
    obtain ⟨⟨k, v⟩, hkv⟩ : ∃ p, kvs[i]? = some p := ⟨kvs[i], List.getElem?_eq_getElem hi⟩
    obtain ⟨en, q, hen, hkey, hq, ru⟩ := ent i k v hkv
    have hlt0 : i < es'.size := by rw [hsz]; exact hi
    have een : es'[i] = en := by
      rw [Array.getElem?_eq_getElem hlt0] at hen
      exact Option.some.inj hen
    obtain ⟨ok, ov, he⟩ := st
    rw [← hsz] at he
    have hlt : it < s.heap.objs.size := Heap.lt_size he
    refine wpAny_pyNext_items_item_raw he ⟨o, hgd, hx, hdt⟩ hlt0 fun h' ho hT hz hk => ?_
    refine ⟨_, rfl, wpAny_letOwnedTupleGo_items (s := { s with heap := h' }) ho fun h'' he' sb => ?_⟩
    have hT2 : h''.get? s.heap.objs.size = some { cls := .type "tuple", data := .seq #[es'[i].key, es'[i].val] } := (sb.2 _ (Nat.ne_of_gt hlt)).trans hT
    have rk : RelV (V.ref q) es'[i].key := by rw [een, hkey]; rfl
    have rv : RelV v es'[i].val := by rw [een]; exact ru
    have new : ObjOk X.prog X.w (upd H s.heap.objs.size (.tup [.ref q, v])) h'' s.heap.objs.size (.tup [.ref q, v]) :=
      ⟨by show 2 ≤ sizeLine; decide, [es'[i].key, es'[i].val], .cons rk (.cons rv .nil), ⟨_, hT2, rfl, _, rfl⟩⟩
    have I1 : Inv X pins σ (upd H s.heap.objs.size (.tup [.ref q, v])) { s with heap := h'' } :=
      I.turnedNew (t' := s.toks) (ch := [it]) (fun b ob hb e => (sb.2 b (by simpa using hb)).trans (hk b ob (by simpa using hb) e)) hf (Nat.le_refl _) new
    refine ⟨.ref s.heap.objs.size, _, I1, rfl, ⟨_, k, v, q, hkv, rfl, I.hok.fresh (Nat.le_refl _), hq, rfl⟩, ⟨es'[i].key, es'[i].val, ?_⟩, fun b hb => ?_⟩
    · rw [← hsz]; exact he'
    · have e : b = it := by simpa using hb
      rw [e, upd_ne (Nat.ne_of_lt hlt)]
      exact (hf it (by simp)).1
  done := by
    intro X hP hw hK hc i pins s σ H E I hf st hg
    subst hP hw hK
    obtain ⟨hd, hi⟩ := hg
    obtain ⟨f0, f1, f2, f3, f4, f5⟩ := hf it (by simp)
    obtain ⟨hs, hgd, hx, es', ep', hdt, hsz, ent⟩ := frzTv I hd
    obtain ⟨rfl, rfl⟩ := dict_ep hod hdt
    obtain ⟨ok, ov, he⟩ := st
    rw [← hsz] at he
    exact wpAny_pyNext_items_end_raw (I.ok.hd hc) he ⟨o, hgd, hx, hdt⟩ (by rw [hsz]; exact hi) fun h' eb => ⟨rfl, I.turned (t' := s.toks) (fun b ob hb e => eb b ob hb e) f0 f1 f3 f4 f5⟩
  self := fun A i s Q E st h => let ⟨_, _, e⟩ := st; PySem.W.kcp_self e h
end
/-- for k, v in d.items(), d by tuple keys, locked -/
def iItemsT (td : TE) : TI := fun σ H R => td σ H fun x H1 => ∃ d o kvs, x = .ref d ∧ H1 d = some (.frz o (.dT kvs)) ∧ R (Itti d o kvs) H1
section
variable {X : Cx} {tg e : Expr} {td : TE} {apos cpos : Pos}
theorem pi_itemsT {elts : List Expr} {kk : Nat} {tpos : Pos} (he : PE X e td) (hbase : attributeBase e "items" X.env (eval e X.env) = eval e X.env := by rfl) (hline : (apos.endLine == cpos.line) = true := by rfl) :
    PI X (.Tuple elts kk tpos) (.Call (.Attribute e "items" apos) [] [] cpos) (iItemsT td) := by
  refine ⟨fun pins s σ H R I h => ?_⟩
  refine wpAny_Call_method (T := "dict") (id := "dict.items") hbase rfl hline F.plainAttrs_dict F.slot_dict_items F.type_dict_items (thn (he.run pins s σ H _ I h) fun u s1 ⟨x, H1, I1, rx, d, o, kvs, ex, hd, q⟩ => ?_)
  subst ex
  obtain rfl : u = Value.ref d := rx
  obtain ⟨hs, hgd, hx, es, ep, hdt, hsz, ent⟩ := frzTv I1 hd
  have hraw : s1.heap.DictRaw d es ep := ⟨o, hgd, hx, hdt⟩
  refine ⟨hraw.typeIs, fun a e => by cases e; exact ⟨o, hgd, hx.2.1⟩, ?_⟩
  have I2 : Inv X pins σ H1 { s1 with heap := s1.heap.push { cls := .type "dict_items", data := .fields #[.ref d] } } := I1.kept (t' := s1.toks) fun b ob q => Heap.get?_push_of_some _ q
  have fin : wpAny (model X.prog X.w) X.A (pyIter (.ref s1.heap.objs.size)) (PIE X pins σ (.Tuple elts kk tpos) R) X.xe { s1 with heap := s1.heap.push { cls := .type "dict_items", data := .fields #[.ref d] } } := by
    refine wpAny_pyIter_items_raw (d := d) (es := es) (ep := ep) ⟨_, Heap.get?_push_size _ rfl, rfl, rfl⟩ ⟨o, Heap.get?_push_of_some _ hgd, hx, hdt⟩ (pi_one (tk := s1.toks) I2 _ (turn_itemsT _ hdt) ⟨.none, .none, ?_⟩ q)
    rw [← hsz]
    exact Heap.get?_push_size _ rfl
  show wpAny _ _ (callWith cpos (.builtin "dict.items") [.ref d] [] []) _ X.xe s1
  exact method_meetsIn F.slot_dict_items F.entry_dict_items rfl (PySem.evalArgs_none ⟨rfl, hraw.typeIs, F.args_dict_items_1 _, _, meets_dict_items_raw d hs, ⟨es, ep, hraw⟩, fin⟩)
end
section
variable {t : Tys} {O : Os} {td : TE} {p : Addr}
theorem src_itemsT {r : List (List Key × Rp)} {od : Obj} {l : List (List Key × V)} (h : EvT t O td (rRef p)) (hm : (p, OC.lkT od l r) ∈ O) : SrcW [(p, .lkT od l r)] t O (iItemsT td) (r.map fun e => rTup [rKT e.1, e.2]) := fun s G H T ro sb Rk q => h s G H T ro sb _ fun v G1 H1 st hv => by
  have hv : v = .ref p := hv
  subst hv
  have at_ : ∀ {G2 H2 : Hp}, RO [(p, OC.lkT od l r)] G2 H2 → H2 p = some (.frz od (.dT l)) ∧ AllK l r G2 := fun ro2 => by
    obtain ⟨o, h1, h2⟩ := ro2 _ (List.mem_singleton.mpr rfl)
    have h1 : _ = some o := h1
    cases o with
    | frz od' w =>
      cases w with
      | dT l' =>
        obtain ⟨⟨e1, e2⟩, h3⟩ := h2
        subst e1 e2
        exact ⟨h1, h3⟩
      | _ => exact h2.elim
    | _ => exact h2.elim
  obtain ⟨hp, ha⟩ := at_ (fun e he => (ro.step st.gg st.ex) e (by rw [List.mem_singleton.mp he]; exact hm))
  have getR : ∀ {l : List (List Key × V)} {r : List (List Key × Rp)} {G : Hp} {i : Nat} {kk : List Key} {v : V}, AllK l r G → l[i]? = some (kk, v) → ∃ R, r[i]? = some (kk, R) ∧ R.p v G := by
    intro l
    induction l with
    | nil => intro r G i kk v _ e; simp at e
    | cons x l ih =>
      intro r G i kk v ha e
      match r, ha with
      | y :: r, ha =>
        cases i with
        | zero =>
          have e : x = (kk, v) := Option.some.inj e
          subst e
          exact ⟨y.2, by rw [show kk = y.1 from ha.1.1]; rfl, ha.1.2⟩
        | succ i => exact ih (r := r) ha.2 (by simpa using e)
  refine ⟨p, od, l, rfl, hp, q _ G1 H1 st ⟨fun i H2 G2 hi e s2 ro2 => ?_, fun H2 G2 e s2 ro2 => ?_, fun i H2 G2 x H3 R hR e s2 ro2 y => ?_⟩⟩
  · refine ⟨(at_ ro2).1, ?_⟩
    rw [ha.length]; simpa using hi
  · refine ⟨(at_ ro2).1, ?_⟩
    rw [ha.length]; simp
  · obtain ⟨T1, kk, v, b, hkv, rfl, hT, hb, rfl⟩ := y
    obtain ⟨Rv, hr, hv⟩ := getR (at_ ro2).2 hkv
    rw [List.getElem?_map, hr] at hR
    have e1 : rTup [rKT kk, Rv] = R := Option.some.inj hR
    rw [← e1]
    have s3 : Step [] G2 H2 (upd G2 b (.tup (kk.map kV))) H2 := Step.learn s2 hb
    have nb : b ≠ T1 := fun e => by rw [e, hT] at hb; cases hb
    have s4 := Step.new (o := .tup [.ref b, v]) s3.sub hT
    refine ⟨_, s3.trans s4, T1, _, rfl, upd_same, ?_, Rv.mono _ _ _ (s3.gg.trans s4.gg) hv, trivial⟩
    refine ⟨b, kk.map kV, rfl, ?_, All2.of_eqs kk⟩
    rw [upd_ne nb, upd_same]
end
end Rz
set_option Elab.async false
set_option linter.all false
set_option maxRecDepth 100000
set_option maxHeartbeats 4000000
/-! Rz33: new objects that are passed on, or known from then on. Own work. -/
namespace Rz
open PySem PySem.Spec L2
section
variable {K : PySem.W.Frag} {t : Tys} {O : Os} {te : TE} {tr : TA} {α α2 γ : Type} {Rs : α → List Rp} {Oa : α → Os} {pre : α → Prop} {post : α → OC → Prop} {E E2 : XK}
theorem ev_callNT {Pf : γ → Prop} {Rb : γ → Rp} (x : α) (ha : EvA t O tr (Rs x)) (hp : pre x) (hc : ∀ c, post x c → ∃ z, Pf z ∧ ∀ p o F, F p = some o → c.ok o F → (Rb z).p (.ref p) F) (ho : ∀ e ∈ Oa x, e ∈ O := by simp) : EvT t O (tCall (PrmN Rs Oa pre post) [] E tr) (rEx Pf Rb) := fun s G H T o sb Q q =>
  ha s G H T o sb _ fun vs G1 H1 s1 hvs => by
    refine ⟨x, G1, hp, by rw [List.append_nil]; exact hvs, fun e he => (o.step s1.gg s1.ex) e (ho e he), s1.sub, fun p u c G' H' hc' st hp hg hu hok => ?_⟩
    obtain ⟨z, hz, hR⟩ := hc c hc'
    have e : Ex G' (upd G' p u) := Ex.new hg
    have st2 := s1.trans st
    have hp0 : H p = none := by
      cases z : H p with
      | none => rfl
      | some u => rw [s1.ex p u z] at hp; cases hp
    refine q (.ref p) (upd G' p u) H' (Step.of (st2.gg.trans e) (fun a w ha => ?_) st2.ex fun a ha => ?_) ⟨z, hz, hR p u _ upd_same (OC.ok_mono e hok)⟩
    · by_cases ea : a = p
      · rw [ea, upd_same] at ha; cases ha; rw [ea]; exact .inl hu
      · rw [upd_ne ea] at ha; exact st2.sub a w ha
    · have ne : a ≠ p := fun ea => ha.1 (by rw [ea]; exact hp0)
      rw [upd_ne ne]; exact st2.old a ha
theorem ev_callTN {Rs2 : α2 → List Rp} {O2 : α2 → Os} {pre2 : α2 → Prop} {R2 : α2 → Rp} {Pf : γ → Prop} {Rb : γ → Rp} (x : α) (ha : EvA t O tr (Rs x)) (hp : pre x) (hc : ∀ c, post x c → ∃ z, Pf z ∧ ∀ p, ∃ y, pre2 y ∧ Rs2 y = [rRef p] ∧ O2 y = [(p, c)] ∧ R2 y = Rb z) (ho : ∀ e ∈ Oa x, e ∈ O := by simp) :
    EvT t O (tCall (Prm Rs2 O2 pre2 R2) [] E2 (tCons (tCall (PrmN Rs Oa pre post) [] E tr) tNil)) (rEx Pf Rb) := fun s G H T o sb Q q =>
  ha s G H T o sb _ fun vs G1 H1 s1 hvs => by
    refine ⟨x, G1, hp, by rw [List.append_nil]; exact hvs, fun e he => (o.step s1.gg s1.ex) e (ho e he), s1.sub, fun p u c G' H' hc' st hp hg hu hok => ?_⟩
    obtain ⟨z, hz, hy⟩ := hc c hc'
    obtain ⟨y, h1, h2, h3, h4⟩ := hy p
    refine ⟨y, G', h1, by rw [h2]; exact ⟨rfl, trivial⟩, fun e he => ?_, st.sub, fun v G2 H2 st2 hv => q v G2 H2 ((s1.trans st).trans st2) ⟨z, hz, h4 ▸ hv⟩⟩
    rw [h3] at he
    rw [List.mem_singleton.mp he]
    exact ⟨u, hu, hok⟩
end
section
variable {X : Cx}
/-- name = {..} on one line, the name a local -/
theorem ps_setDc {i : Nat} {y : Str} {py : Pos} {kx vx tg iter : Expr} {ifs : List Expr} {scope : Scope} {own : List (Str × Nat)} {pos spos : Pos} {wi : TI} {g : TG} {tt : TT} {tk tv : TE} (hc : X.calm = true) (hN : X.N.Nodup) (hy : X.N[i]? = some y) (hyl : X.env.scope.names.lookup y = some .local)
    (hsw : swapsWith (.DictComp kx vx [⟨tg, iter, ifs, 0⟩] scope pos) (some (.Name y py)) spos.line X.env = pure true) (hi : PI X tg iter wi) (ok : BlkOk X.N X.env.scope scope own)
    (hg : ∀ (s : Shared) (H : Hp) (C : Addr) (cl : List (Str × Addr)) (fp : List Addr), PG (X.blk s H scope (compEnvC scope cl C X.env) fp) tg g) (ht : ∀ (s : Shared) (H : Hp) (C : Addr) (cl : List (Str × Addr)) (fp : List Addr), PTs (X.blk s H scope (compEnvC scope cl C X.env) fp) ifs tt)
    (hk : ∀ (s : Shared) (H : Hp) (C : Addr) (cl : List (Str × Addr)) (fp : List Addr), PE (X.blk s H scope (compEnvC scope cl C X.env) fp) kx tk)
    (he : ∀ (s : Shared) (H : Hp) (C : Addr) (cl : List (Str × Addr)) (fp : List Addr), PE (X.blk s H scope (compEnvC scope cl C X.env) fp) vx tv) (hs : ∀ x, foldedSetIterable iter X.env x = pure x := by intro _; rfl) :
    PS X (.Assign [.Name y py] (.DictComp kx vx [⟨tg, iter, ifs, 0⟩] scope pos) spos) (tAsg (tDc wi g tt tk tv (own.map (·.2))) (gName i)) := by
  refine ⟨fun pins s σ H D I h => ?_⟩
  rw [exec_Assign_Name_used _ _ _ _ hsw]
  refine wpAny_bind (wpAny_standAt (wpAny_bind ?_))
  show wpAny _ X.A (do let _ ← comprehension (.DictComp kx vx [⟨tg, iter, ifs, 0⟩] scope pos) scope X.env (firstIterPos [⟨tg, iter, ifs, 0⟩] pos) newDict false (eval iter X.env) (some (assign (.Name y py) X.env))) _ _ s
  have h : tDc wi g tt tk tv (own.map (·.2)) σ H (fun x H1 => gName i x σ H1 D.nx) := h
  refine wpAny_bind (thn (dc_core (Qf := fun _ s' => SP X pins D .next s') hc hN I hi ok hg ht hk he hs h fun L C s' m H' I' q hn f => ?_) fun _ s' hq => wpAny_pure (wpAny_pure hq))
  show wpAny _ _ (assign (.Name y py) X.env (.ref L)) _ _ _
  refine wpAny_assign_Name (store_ok2 (v := V.ref L) I' hN hy (.inl hyl) rfl (fun s2 I2 ⟨a, sb, ha⟩ => ?_) (.inr hyl))
  obtain ⟨f0, f1, f2, f3, f4, f5⟩ := f
  have haC : C ≠ a := by
    rcases ha with z | z
    · rw [z]; exact f1
    · exact fun e => f4 y a z e.symm
  refine ⟨m, hn.sameBut sb haC, fun h3 sb3 => ?_⟩
  exact ⟨_, H', I2.turned (t' := s2.toks) (fun b o hb e => (sb3.2 b hb).trans e) f0 f1 f3 f4 f5, q⟩
theorem sw_trueD {kx vx : Expr} {gs : List Comprehension} {scope : Scope} {pos py : Pos} {y : Str} {l : Nat} {env : Env} (hk : env.scope.kind = .function) (hy : env.scope.names.lookup y = some .local) (hl : (py.line == pos.line) = true)
    (ha : (scope.names.any fun (n, k) => n == y && (k == .local || k == .cell)) = false) : swapsWith (.DictComp kx vx gs scope pos) (some (.Name y py)) l env = pure true := by
  have ky : env.kindOf y = some .local := hy
  have hb : env.blockKind = .function := by unfold Env.blockKind; rw [hk]; rfl
  unfold swapsWith
  simp only [hb, ky, ha, Expr.pos, hl]
  rfl
end
end Rz
set_option Elab.async false
set_option linter.all false
set_option maxRecDepth 100000
set_option maxHeartbeats 4000000
/-! Rz34: calls whose arguments are known in part. Own work. -/
namespace Rz
open PySem PySem.Spec L2
section
variable {X : Cx} (K : PySem.W.Frag)
theorem anyK_ (hc : X.calm = true) (e : X.K = K := by rfl) : CallR X (.builtin "any") (L2.rAny K) := e ▸ cr_any hc
theorem allK_ (hc : X.calm = true) (e : X.K = K := by rfl) : CallR X (.builtin "all") (rAll K) := e ▸ cr_all hc
theorem sumK_ (hc : X.calm = true) (e : X.K = K := by rfl) : CallR X (.builtin "sum") (rSum K) := e ▸ cr_sum hc
theorem minK_ (hc : X.calm = true) (e : X.K = K := by rfl) : CallR X (.builtin "min") (rMin K) := e ▸ cr_min hc
theorem maxK_ (hc : X.calm = true) (e : X.K = K := by rfl) : CallR X (.builtin "max") (rMax K) := e ▸ cr_max hc
end
section
variable {K : PySem.W.Frag} {t : Tys} {O : Os} {te : TE} {tr tk : TA} {α : Type} {Rs : α → List Rp} {Oa : α → Os} {pre : α → Prop} {Rr : α → Rp} {E : XK}
theorem ev_callX {Ra : List Rp} {Z : α → Prop} (ha : EvA t O tr Ra) (hx : ∀ vs G, All2 vs Ra G → ∃ x, Z x ∧ All2 vs (Rs x) G) (hp : ∀ x, Z x → pre x) (ho : ∀ x, Z x → ∀ e ∈ Oa x, e ∈ O) : EvT t O (tCall (Prm Rs Oa pre Rr) [] E tr) (rEx Z Rr) := fun s G H T o sb Q q =>
  ha s G H T o sb _ fun vs G1 H1 s1 hvs => by
    obtain ⟨x, hZ, hvs⟩ := hx vs G1 hvs
    exact ⟨x, G1, hp x hZ, by rw [List.append_nil]; exact hvs, fun e he => (o.step s1.gg s1.ex) e (ho x hZ e he), s1.sub, fun v G' H' st hv => q v G' H' (s1.trans st) ⟨x, hZ, hv⟩⟩
end
end Rz
set_option Elab.async false
set_option linter.all false
set_option maxRecDepth 100000
set_option maxHeartbeats 4000000
/-! Rz35: an own object that is changed as an outside one; a def that gives a value that holds a new object. Own work. -/
namespace Rz
open PySem PySem.Spec L2
section
variable {K : PySem.W.Frag} {Y : List Addr} {t : Tys} {O : Os} {W : List Addr} {p : Addr} {c : OC} {te : TE} {tr : TA} {ts tz : TS} {R : Rp} {Nx : Nxt} {Rt : Rts}
theorem HT.adopt (h : HT (p :: Y) t O [] ts (fun t' O' W' => Nx t' O' (p :: W')) Rt) : HT Y t O [p] ts Nx Rt := fun b s H ⟨G, a⟩ D n r => by
  obtain ⟨w1, ⟨o, w2, w3⟩, w4⟩ := a.w p (by simp)
  let b2 : Bs := ⟨G, H, p :: b.X⟩
  have back : ∀ {G' H' : Hp}, Step b2.X b2.G b2.H G' H' → Step b.X b.G b.H G' H' := fun {G' H'} st =>
    ⟨a.st.gg.trans st.gg, st.sub, fun x u hx nx => st.hh x u (a.st.hh x u hx nx) (fun m => by
      rcases List.mem_cons.mp m with e | e
      · rw [e, w4] at hx; cases hx
      · exact nx e), fun x hx => st.all x (a.st.all x hx), fun x hx => (st.old x (a.st.nt x hx)).trans (a.st.old x hx), fun x hx => st.nt x (a.st.nt x hx), fun x vs hx => st.tt x vs (a.st.tt x vs hx)⟩
  have fresh : ∀ {x : Addr}, b2.H x = none → b.H x = none := fun {x} hx => by
    cases z : b.H x with
    | none => rfl
    | some u => exact absurd hx (a.st.all x (some_ne z))
  refine h b2 s H ⟨G, a.ty, a.ro, Step.refl a.sub, by simp, fun x hx => ?_, a.nd⟩ _ (fun t' O' W' s' H' hn ⟨G', a'⟩ => ?_) fun R O' W' v G' H' hR st hv ro hw => ?_
  · rcases List.mem_cons.mp hx with e | e
    · rw [e]; exact ⟨w1, ⟨o, w2, w3⟩, List.mem_cons_self, some_ne w2⟩
    · obtain ⟨y1, ⟨u, y2, y3⟩, y4, y5⟩ := a.y x e
      exact ⟨y1, ⟨u, y2, y3⟩, List.mem_cons_of_mem _ y4, some_ne y2⟩
  · refine n t' O' (p :: W') s' H' hn ⟨G', a'.ty, a'.ro, back a'.st, fun x hx => ?_, fun x hx => ?_, a'.nd⟩
    · rcases List.mem_cons.mp hx with e | e
      · rw [e]
        obtain ⟨y1, y2, _, _⟩ := a'.y p List.mem_cons_self
        exact ⟨y1, y2, w4⟩
      · obtain ⟨z1, z2, z3⟩ := a'.w x e
        exact ⟨z1, z2, fresh z3⟩
    · obtain ⟨y1, y2, _, _⟩ := a'.y x (List.mem_cons_of_mem _ hx)
      exact ⟨y1, y2, (a.y x hx).2.2⟩
  · exact r R O' W' v G' H' hR (back st) hv ro fun x hx => ⟨(hw x hx).1, fresh (hw x hx).2⟩
end
/-- called, it gives a value that holds a new object, and changes nothing -/
def PrmY {α β : Type} (Rs : α → List Rp) (O : α → Os) (pre : α → Prop) (Pf : α → β → Prop) (Rb : α → β → Addr → Rp) (cb : α → β → OC) : Sp := fun vs H Q _ => ∃ x G, pre x ∧ All2 vs (Rs x) G ∧ RO (O x) G H ∧ Sub G H ∧
  ∀ v G' H' b q o, Pf x b → Step [] G H G' H' → H q = none → G' q = none → H' q = some o → (cb x b).ok o G' → (Rb x b q).p v G' → Q v H'
section
variable {P : Program} {w : World} {K : PySem.W.Frag} {mg : Str → Option Value} {base : Heap} {x qual : Str} {params : Arguments} {body : List Stmt} {scope : Scope} {dvs : List V} {kws : List (Str × V)} {f : Addr} {fd : FuncData} {α β : Type}
theorem fn_prmY {Rs : α → List Rp} {O : α → Os} {pre : α → Prop} {Pf : α → β → Prop} {Rb : α → β → Addr → Rp} {cb : α → β → OC} {N ps : List Str} {k : Nat} (F : FunD K x qual params body scope dvs kws f fd) (S : FnScope N ps scope) (hlen : ∀ a, (Rs a).length = ps.length) (hO : ∀ a, (O a).map (·.1) |>.Nodup)
    (hbody : ∀ (cdv : Value) (A : Around) (outer : List Env) (s : Shared) (H : Hp) (E : XK), Room k (A.deeper (PyProof.Rows.envOfC qual scope s.heap.objs.size f cdv)) →
      ∃ t, PSs (cxOf CX0 P w K mg base N qual scope f cdv A outer s H E).nox body t ∧ ∀ a, pre a → HT [] (startT N (Rs a)) (O a) [] t (fun _ _ _ => False) (fun R' O' W' => ∃ b q, Pf a b ∧ R' = Rb a b q ∧ (q, cb a b) ∈ O' ∧ q ∈ W')) :
    FnOk P w K mg base CX0 (k + 1) f fd ps (PrmY Rs O pre Pf Rb cb) := by
  refine F.ok S (fun vs H Q E ⟨a, G, _, hv, _⟩ => by rw [hv.length, hlen a]) fun cdv A outer s H vs Q E hr ⟨a, G, hp, hv, ho, sb, q⟩ => ?_
  obtain ⟨t, h1, h2⟩ := hbody cdv A outer s H E hr
  refine ⟨t, h1.nox, h2 a hp ⟨G, H, []⟩ _ H ⟨G, ?_, ho, Step.refl sb, by simp, by simp, hO a⟩ _ (fun t' O' W' s' H' e _ => e.elim) fun R' O' W' v G' H' e st hv' ro hw => ?_⟩
  · unfold L2.start startT
    rw [hv.length]
    exact ty_start (N := N) _ hv
  · obtain ⟨b, z, hb, rfl, m2, m3⟩ := e
    obtain ⟨u, h3, h4⟩ := ro _ m2
    exact q v G' H' b z u hb st (hw z m3).2 (hw z m3).1 h3 h4 hv'
end
section
variable {K : PySem.W.Frag} {Y : List Addr} {t : Tys} {O : Os} {W : List Addr} {te : TE} {tr : TA} {tz : TS} {R : Rp} {Nx : Nxt} {Rt : Rts} {α β : Type}
theorem hs_setY {Rs : α → List Rp} {Oa : α → Os} {pre : α → Prop} {Pf : α → β → Prop} {Rb : α → β → Addr → Rp} {cb : α → β → OC} {E : XK} {i : Nat} (x : α) (ha : EvA t O tr (Rs x)) (hp : pre x) (ho : ∀ e ∈ Oa x, e ∈ O) (hmb : ∀ b, (cb x b).may = true)
    (kk : ∀ b q, Pf x b → HT Y (t.set i (some (Rb x b q))) ((q, cb x b) :: O) (q :: W) tz Nx Rt) : HT Y t O W (tSeq (tAsg (tCall (PrmY Rs Oa pre Pf Rb cb) [] E tr) (gName i)) tz) Nx Rt := fun b s H ⟨G, a⟩ D n r =>
  ha s G H a.ty a.ro a.sub _ fun vs G1 H1 s1 hvs => by
    refine ⟨x, G1, hp, by rw [List.append_nil]; exact hvs, fun e he => (a.ro.step s1.gg s1.ex) e (ho e he), s1.sub, fun v G' H' b' q o hb st hq hg ho2 hok hv => ?_⟩
    have hq0 : H q = none := by
      cases z : H q with
      | none => rfl
      | some u => rw [s1.ex q u z] at hq; cases hq
    exact kk b' q hb b _ _ ⟨G', (a.own (s1.trans st) hq0 hg ho2 hok (hmb b')).setTy hv⟩ D n r
end
end Rz
set_option Elab.async false
set_option linter.all false
set_option maxRecDepth 100000
set_option maxHeartbeats 4000000
/-! Rz36: t[::-1] of a tuple; list(range(n)); is None of a reference. Own work. -/
namespace Rz
open PySem PySem.Spec PyProof.Rows L2
section
variable {prog : Program} {w : World} {A : Around} {E : Value → Shared → Prop} {s : Shared}
theorem applied_rev {sl : Addr} {vl vu vk : Value} {n : Nat} {Q : Int × Int × Nat → Shared → Prop} (hs : s.heap.IsSliceOf sl vl vu vk) (pl : IsPart vl none) (pu : IsPart vu none) (pk : IsPart vk (some (-1)))
    (h : Q ((n : Int) - 1, -1, n) s) : wpAny (model prog w) A (Builtin.Slice.sliceApplied (.ref sl) (pure (n : Int))) Q E s := by
  obtain ⟨os, hos, hcs, hds⟩ := id hs
  unfold Builtin.Slice.sliceApplied Builtin.Slice.sliceFields
  refine wpAny_bind (wpAny_bind (wpAny_field hos hds (x := vl) rfl (wpAny_bind (wpAny_field hos hds (x := vu) rfl (wpAny_bind (wpAny_field hos hds (x := vk) rfl (wpAny_pure ?_)))))))
  refine wpAny_bind (HT.slicePart_ pk ?_)
  show wpAny _ _ (if ((-1 : Int) == 0) = true then _ else _) _ _ s
  rw [if_neg (by decide)]
  refine wpAny_bind (HT.slicePart_ pl (wpAny_bind (HT.slicePart_ pu (wpAny_bind (wpAny_pure ?_)))))
  show wpAny _ _ (match Builtin.Slice.sliceAdjust none none (-1) (n : Int) with | (lo, hi) => pure (lo, (-1 : Int), Builtin.Slice.slicePlaces lo hi (-1))) _ _ s
  have e : Builtin.Slice.sliceAdjust none none (-1) (n : Int) = ((n : Int) - 1, -1) := rfl
  rw [e]
  show wpAny _ _ (pure ((n : Int) - 1, (-1 : Int), Builtin.Slice.slicePlaces ((n : Int) - 1) (-1) (-1))) _ _ s
  have e2 : Builtin.Slice.slicePlaces ((n : Int) - 1) (-1) (-1) = n := by
    unfold Builtin.Slice.slicePlaces
    have h1 : ¬ ((-1 : Int) > 0) := by decide
    simp only [h1, if_false]
    rw [show (- -1 : Int) = 1 by decide, Int.ediv_one]
    split <;> omega
  rw [e2]
  exact wpAny_pure h
theorem fm_congr {α β : Type} {f g : α → Option β} : ∀ {l : List α}, (∀ x ∈ l, f x = g x) → l.filterMap f = l.filterMap g
  | [], _ => rfl
  | x :: l, h => by
    rw [List.filterMap_cons, List.filterMap_cons, h x List.mem_cons_self, fm_congr fun y hy => h y (List.mem_cons_of_mem _ hy)]
theorem pick_rev (xs : Array Value) : ((List.range xs.size).filterMap fun (m : Nat) => xs[(((xs.size : Nat) : Int) - 1 + (m : Int) * (-1)).toNat]?).toArray = xs.toList.reverse.toArray := by
  have e := PySem.W.krv_pick xs
  rw [← e]
  unfold slicePick
  rw [PySem.W.krv_bounds]
  show _ = ((sliceRange ((xs.size : Int) - 1) (-1) (-1)).filterMap (xs[·]?)).toArray
  rw [PySem.W.krv_sliceRange, List.filterMap_map]
  congr 1
  refine fm_congr fun m hm => ?_
  have := List.mem_range.mp hm
  show xs[_]? = xs[xs.size - 1 - m]?
  congr 1
  omega
theorem getItem_tuple_rev {t sl : Addr} {items : Array Value} {vl vu vk : Value} {Q : Value → Shared → Prop} (ht : IsTup s.heap t items) (hs : s.heap.IsSliceOf sl vl vu vk) (pl : IsPart vl none) (pu : IsPart vu none) (pk : IsPart vk (some (-1)))
    (h : Q (.ref s.heap.objs.size) { s with heap := s.heap.push { cls := .type "tuple", data := .seq items.toList.reverse.toArray } })
    (hsz : items.size ≤ sizeLine) : wpAny (model prog w) A (getItem (.ref t) (.ref sl)) Q E s := by
  have htake : sizeOk (.seq items.toList.reverse.toArray) := by
    show items.toList.reverse.toArray.size ≤ sizeLine
    rw [List.size_toArray, List.length_reverse, Array.length_toList]
    exact hsz
  obtain ⟨os, hos, hcs, hds⟩ := id hs
  have hTs : s.TypeIs (.ref sl) "slice" := ⟨os, hos, hcs⟩
  unfold getItem
  try with_reducible refine wpAny_holding ?_
  first | refine wpAny_bind (wpAny_pure ?_) | skip
  refine wpAny_bind (wpAny_sequenceKey ht.typeIs (by decide) ?_)
  refine wpAny_bind (wpAny_callSpecial?_slot (name := Str.ofString "__getitem__") ht.typeIs PyProof.Rows.slot_tuple_getitem
    (wpAny_call_entry PyProof.Rows.slot_tuple_getitem ht.typeIs entry_tuple_getitem ?_ (args_tuple_getitem _ _)))
  show wpAny _ _ (Builtin.Tuple.tupleItemsOf (.ref t) >>= _) _ _ s
  refine wpAny_bind (tupleItemsOf_ ht ?_)
  refine wpAny_bind (wpAny_typeOf hTs ?_)
  rw [if_pos (by decide)]
  refine wpAny_bind (applied_rev (n := items.size) hs pl pu pk ?_)
  have hno : ¬ ((((items.size : Int) - 1) == 0 && (-1 : Int) == 1 && items.size == items.size) = true) := by
    intro q
    rw [Bool.and_eq_true, Bool.and_eq_true] at q
    exact absurd q.1.2 (by decide)
  show wpAny _ _ (if (((items.size : Int) - 1) == 0 && (-1 : Int) == 1 && items.size == items.size) = true then _ else _) _ _ s
  rw [if_neg hno, pick_rev]
  first
    | exact wpAny_bind (m := Builtin.Tuple.tupleExact _) (wpAny_newObj_type (wpAny_pure ⟨_, rfl, wpAny_pure h⟩) htake)
    | exact wpAny_bind (m := Builtin.Tuple.tupleExact _) (wpAny_newObj_type (wpAny_bind (wpAny_pure (wpAny_pure ⟨_, rfl, wpAny_pure h⟩))) htake)
    | exact wpAny_bind (wpAny_bind (m := Builtin.Tuple.tupleExact _) (wpAny_newObj_type (wpAny_pure (wpAny_pure ⟨_, rfl, wpAny_pure h⟩)) htake))
    | exact wpAny_bind (wpAny_bind (m := Builtin.Tuple.tupleExact _) (wpAny_newObj_type (wpAny_pure ⟨_, rfl, wpAny_pure h⟩) htake))
end
section
variable {X : Cx}
/-- t[::-1], a tuple -/
def tRevT (K : PySem.W.Frag) (te : TE) : TE := fun σ H Q => te σ H fun x H1 => ∃ a xs, x = .ref a ∧ SqT K H1 a xs ∧ ∀ p, H1 p = none → Q (.ref p) (upd H1 p (.tup xs.reverse))
theorem pe_revT {e : Expr} {te : TE} {k : Nat} {p1 p2 p3 pos : Pos} (he : PE X e te) : PE X (.Subscript e (.Slice none none (some (.UnaryOp .USub (.Constant (.int 1) k p1) p2)) p3) pos) (tRevT X.K te) := by
  refine ⟨fun pins s σ H Q I h => ?_⟩
  refine Subscript_ (thn (he.run pins s σ H _ I h) fun v s1 ⟨x, H1, I1, r1, q1⟩ => ?_)
  obtain ⟨a, xs, ex, hx, q⟩ := q1
  subst ex
  cases r1
  have hst : PO X (some (.UnaryOp .USub (.Constant (.int 1) k p1) p2)) (tPart (tUn (rU fun i => .int (-i)) (tC (.int 1)))) := po_some (pe_un un_neg pe_int)
  refine wpAny_Slice (thn (po_none.run pins s1 σ H1 (fun o H2 => o = none ∧ H2 = H1) I1 ⟨rfl, rfl⟩) fun vl s2 ⟨l, H2, I2, pl, el, e2⟩ => ?_)
  subst el e2
  refine thn (po_none.run pins s2 σ H2 (fun o H3 => o = none ∧ H3 = H2) I2 ⟨rfl, rfl⟩) fun vu s3 ⟨u, H3, I3, pu, eu, e3⟩ => ?_
  subst eu e3
  refine thn (hst.run pins s3 σ H3 (fun o H4 => o = some (-1) ∧ H4 = H3) I3 ⟨1, rfl, -1, rfl, rfl, rfl⟩) fun vs s4 ⟨o, H4, I4, ps, eo, e4⟩ => ?_
  subst eo e4
  have I5 : Inv X pins σ H4 { s4 with heap := s4.heap.push { cls := .type "slice", data := .fields #[vl, vu, vs] } } := I4.kept (t' := s4.toks) fun b ob q => Heap.get?_push_of_some _ q
  obtain ⟨its, r, ht, hz⟩ := I5.tuple hx
  have hlen := r.length
  show wpAny (model X.prog X.w) X.A (subscriptTail e (.Slice none none (some (.UnaryOp .USub (.Constant (.int 1) k p1) p2)) p3) (.ref a) (.ref s4.heap.objs.size)) (EP X pins σ Q) X.xe { s4 with heap := s4.heap.push { cls := .type "slice", data := .fields #[vl, vu, vs] } }
  refine tail_any (ops := [.ref a, .ref s4.heap.objs.size]) ht.typeIs (PyProof.Rows.slot_tuple_getitem.lookup) ?_ (by with_unfolding_all rfl)
  refine getItem_tuple_rev ht (Heap.IsSliceOf.new _ vl vu vs) pl pu ps ?_ (by rw [List.size_toArray]; omega)
  refine ⟨.ref _, _, I5.laid (t' := s4.toks) (o := .tup xs.reverse) (fun b ob q => Heap.get?_push_of_some _ q) (Nat.le_refl _) ?_, rfl, q _ (I5.hok.fresh (Nat.le_refl _))⟩
  exact ⟨by rw [List.length_reverse]; exact hz, _, r.reverse, IsTup.new _ _⟩
end
section
variable {K : PySem.W.Frag} {t : Tys} {O : Os} {te ta : TE} {R : Rp} {Rs : List Rp}
theorem ev_revT (h : EvT t O te (rTup Rs)) : EvT t O (tRevT K te) (rTup Rs.reverse) := fun s G H T o sb Q q => h s G H T o sb _ fun v G1 H1 s1 hv => by
  obtain ⟨a, vs, rfl, h1, h2⟩ := hv
  exact ⟨a, vs, rfl, s1.sub.tup h1, fun l hl => q _ _ _ (s1.trans (Step.new s1.sub hl)) ⟨l, _, rfl, upd_same, h2.rev.mono (Ex.new (s1.sub.none hl))⟩⟩
/-- list(range(n)) -/
theorem ev_listRg1 {n : Int} {m : Nat} (h : EvT t O ta (rInt n)) (e : n = (m : Int)) (hm : m ≤ 16777216) : EvT t O (tLstRg (tRg1 ta)) (rLI ((List.range m).map fun (i : Nat) => (i : Int))) := fun s G H T o sb Q q => h s G H T o sb _ fun v G1 H1 s1 hv => by
  have hv : v = .int n := hv
  subst hv
  refine ⟨n, rfl, RgOk.of_le (by omega) (by omega) (by omega) (by omega), fun p hp => q _ _ _ (s1.trans (Step.new s1.sub hp)) ⟨p, rgV 0 n, rfl, upd_same, ?_⟩⟩
  have e1 : rgV 0 n = ((List.range m).map fun (i : Nat) => (i : Int)).map V.int := by
    unfold rgV
    subst e
    rw [List.map_map]
    have : ((m : Int) - 0).toNat = m := by omega
    rw [this]
    exact List.map_congr_left fun i _ => by show V.int (0 + (i : Int)) = V.int (i : Int); rw [Int.zero_add]
  rw [e1]
  exact All2.of_eqs (f := V.int) _
theorem ev_isNR (ha : EvT t O ta R) (hR : ∀ v G, R.p v G → v ≠ .non) : EvT t O (tIsN ta) (rBl false) := fun s G H T o sb Q q => ha s G H T o sb _ fun x G1 H1 s1 hx => q _ G1 H1 s1 (by
  show V.bl (decide (x = .non)) = V.bl false
  rw [decide_eq_false (hR x G1 hx)])
theorem nn_tup : ∀ v G, (rTup Rs).p v G → v ≠ .non := fun v G ⟨a, vs, e, _⟩ h => by rw [h] at e; cases e
theorem nn_lst : ∀ v G, (rLst Rs).p v G → v ≠ .non := fun v G ⟨a, vs, e, _⟩ h => by rw [h] at e; cases e
end
end Rz
set_option Elab.async false
set_option linter.all false
set_option maxRecDepth 100000
set_option maxHeartbeats 4000000
/-! Rz37: [.. for x in e] where reading e changes an object; dict(pairs). Own work. -/
namespace Rz
open PySem PySem.Spec L2
def lcB (g : TG) (tt : TT) (te : TE) (vs : List Nat) (σ : St) (Q : VK) (J : It) (H1 : Hp) : Prop := ∀ D, H1 D = none → ∃ W : Nat → Nat → Hp → Prop, (∃ m, W 0 m (upd H1 D (.lst []))) ∧ ∀ i m H, W i m H →
  (J.stop i H ∧ Q (.ref D) H) ∨ (J.go i H ∧ ∃ Nx : Hp → Prop, (∀ H', Nx H' → ∃ m', m' < m ∧ W (i + 1) m' H') ∧ ∀ x H', J.yld i H x H' → g x (wipe σ vs) H' fun σ2 H2 => wipe σ2 vs = wipe σ vs ∧ tt σ2 H2 fun b H3 =>
    if b = true then te σ2 H3 fun y H4 => ∃ acc, H4 D = some (.lst acc) ∧ acc.length < sizeLine ∧ Nx (upd H4 D (.lst (acc ++ [y]))) else Nx H3)
section
variable {K : PySem.W.Frag} {t : Tys} {O : Os} {wi : TI} {g : TG} {tt : TT} {te tl : TE} {vs : List Nat} {α β : Type} {xs : List α} {f r : α → Rp} {c : α → Bool} {p : Addr} {cz : OC} {P : β → Prop}
theorem lc_from {s : St} {G1 H1 : Hp} {J : It} {Q : VK} (T1 : Ty s t G1) (o1 : RO O G1 H1) (sb : Sub G1 H1) (src : Src J (xs.map f) G1) (hz : xs.length ≤ sizeLine)
    (hs : ∀ x, x ∈ xs → ∃ t2 us, TgT g (f x) (wt t vs) t2 us ∧ (∀ u ∈ us, u ∈ vs) ∧ EvB t2 O tt (c x) ∧ (c x = true → EvT t2 O te (r x)))
    (q : ∀ p o G' H', Step [] G1 H1 G' H' → H1 p = none → G' p = none → H' p = some o → (OC.lst ((xs.filter c).map r)).ok o G' → Q (.ref p) H') : lcB g tt te vs s Q J H1 := by
  intro D hD
  let Pv : Nat → Hp → Prop := fun i H2 => ∃ G2 acc, Step [] G1 H1 G2 H2 ∧ G2 D = none ∧ H2 D = some (.lst acc) ∧ All2 acc (((xs.take i).filter c).map r) G2
  refine ⟨fun i m H2 => m = xs.length - i ∧ i ≤ xs.length ∧ Pv i H2, ⟨_, rfl, Nat.zero_le _, G1, [], Step.newH sb hD, sb.none hD, upd_same, trivial⟩, ?_⟩
  rintro i m H2 ⟨rfl, hi, G2, acc, s2, hg2, hD2, ha2⟩
  by_cases hlt : i < xs.length
  · refine .inr ⟨src.goes i H2 G2 (by simpa using hlt) s2.gg s2.sub, Pv (i + 1), fun H' p' => ⟨xs.length - (i + 1), by omega, rfl, hlt, p'⟩, fun x H3 y => ?_⟩
    have hx : xs[i]? = some xs[i] := List.getElem?_eq_getElem hlt
    obtain ⟨G3, s3, hx3⟩ := src.yields i H2 G2 x H3 (f xs[i]) (by rw [List.getElem?_map, hx]; rfl) s2.gg s2.sub y
    obtain ⟨t2, us, tg, hu, hc, he⟩ := hs xs[i] (List.getElem_mem hlt)
    have s13 := s2.trans s3
    have Tw : Ty (wipe s vs) (wt t vs) G3 := (T1.mono s13.gg).wipe vs
    have hD3 : H3 D = some (.lst acc) := s3.ex D _ hD2
    have hg3 : G3 D = none := (s3.old D (.mut hD2 trivial)).trans hg2
    refine tg x (wipe s vs) G3 H3 hx3 Tw s13.sub _ fun s4 T4 o4 => ⟨wipe_off hu o4, ?_⟩
    refine hc s4 G3 H3 T4 (o1.step s13.gg s13.ex) s13.sub _ fun G5 H5 s5 => ?_
    have s15 := s13.trans s5
    have hD5 : H5 D = some (.lst acc) := s5.ex D _ hD3
    have hg5 : G5 D = none := (s5.old D (.mut hD3 trivial)).trans hg3
    cases hcx : c xs[i] with
    | false =>
      refine iteF ⟨G5, acc, s15, hg5, hD5, ?_⟩
      rw [snoc_take hx, List.filter_append, List.filter_cons_of_neg (by rw [hcx]; simp)]
      simpa using ha2.mono (s3.gg.trans s5.gg)
    | true =>
      refine iteT (he hcx s4 G5 H5 (T4.mono s5.gg) (o1.step s15.gg s15.ex) s15.sub _ fun v G6 H6 s6 hv => ?_)
      have s16 := s15.trans s6
      have hD6 : H6 D = some (.lst acc) := s6.ex D _ hD5
      have hg6 : G6 D = none := (s6.old D (.mut hD5 trivial)).trans hg5
      have hacc : acc.length ≤ i := by
        rw [ha2.length, List.length_map]
        refine Nat.le_trans (List.length_filter_le _ _) ?_
        rw [List.length_take]; omega
      refine ⟨acc, hD6, by omega, G6, acc ++ [v], ⟨s16.gg, fun a u ha => ?_, fun a u ha _ => ?_, fun a ha => ?_, s16.old, fun a ha => ?_, fun a vs ha => ?_⟩, hg6, upd_same, ?_⟩
      · have hne : a ≠ D := fun e => by rw [e, hg6] at ha; cases ha
        rw [upd_ne hne]; exact s16.sub a u ha
      · have hne : a ≠ D := fun e => by rw [e, hD] at ha; cases ha
        rw [upd_ne hne]; exact s16.ex a u ha
      · by_cases e : a = D
        · rw [e, upd_same]; simp
        · rw [upd_ne e]; exact s16.all a ha
      · by_cases e : a = D
        · rw [e]; exact .mut upd_same trivial
        · have n6 := s16.nt a ha
          exact ⟨by rw [upd_ne e]; exact n6.1, fun vs => by rw [upd_ne e]; exact n6.2 vs⟩
      · have hne : a ≠ D := fun e => by rw [e, hD] at ha; cases ha
        rw [upd_ne hne]; exact s16.ex a _ ha
      · rw [snoc_take hx, List.filter_append, List.filter_cons_of_pos hcx, List.map_append]
        exact (ha2.mono ((s3.gg.trans s5.gg).trans s6.gg)).app ⟨hv, trivial⟩
  · have e : i = xs.length := by omega
    subst e
    refine .inl ⟨?_, q D (.lst acc) G2 H2 s2 hD hg2 hD2 ?_⟩
    · have := src.stops H2 G2 s2.gg s2.sub
      rwa [List.length_map] at this
    · rw [List.take_length] at ha2; exact ha2
theorem ez_lc {xz : β → List α} (hl : EvZ p cz t O tl (rEx P fun z => rLst ((xz z).map f))) (hz : ∀ z, P z → (xz z).length ≤ sizeLine)
    (hs : ∀ z, P z → ∀ x, x ∈ xz z → ∃ t2 us, TgT g (f x) (wt t vs) t2 us ∧ (∀ u ∈ us, u ∈ vs) ∧ EvB t2 O tt (c x) ∧ (c x = true → EvT t2 O te (r x))) :
    EvZ p cz t O (tLc (iList K tl) g tt te vs) (rEx P fun z => rLst (((xz z).filter c).map r)) := fun hb s G H T o sb hg Q q =>
  hl hb s G H T o sb hg _ fun v G1 H1 st ro ⟨z, hP, hv⟩ => by
    obtain ⟨a, vs0, rfl, ha, hx⟩ := hv
    refine ⟨a, rfl, ⟨vs0, st.sub.lst ha⟩, ?_⟩
    have src : Src (Itl K a) ((xz z).map f) G1 := ⟨fun i H2 G2 hi e s2 => by
      have hi' : i < vs0.length := by rw [hx.length]; exact hi
      exact ⟨vs0, vs0[i], s2.lst (e _ _ ha), by simp [hi']⟩, fun H2 G2 e s2 => ⟨vs0, s2.lst (e _ _ ha), by rw [hx.length]; exact Nat.le_refl _⟩, fun i H2 G2 x H3 R hR e s2 y => by
      obtain ⟨e2, f1⟩ := y
      subst e2
      obtain ⟨v1, k1, k2⟩ := hx.get hR
      have e3 := f1 vs0 (s2.lst (e _ _ ha))
      rw [k1] at e3
      cases e3
      exact ⟨G2, Step.refl s2, R.mono _ _ _ e k2⟩⟩
    refine lc_from (T.mono st.gg) ro st.sub src (hz z hP) (hs z hP) fun D u G' H' st2 hD hgD hu hok => ?_
    have e : Ex G' (upd G' D u) := Ex.new hgD
    have st3 : Step [] G1 H1 (upd G' D u) H' := Step.of (st2.gg.trans e) (fun a w ha => by
      by_cases ea : a = D
      · rw [ea, upd_same] at ha; cases ha; rw [ea]; exact .inl hu
      · rw [upd_ne ea] at ha; exact st2.sub a w ha) st2.ex fun a ha => by
      have ne : a ≠ D := fun ea => ha.1 (by rw [ea]; exact hD)
      rw [upd_ne ne]; exact st2.old a ha
    exact q (.ref D) (upd G' D u) H' (st.trans st3.any) (ro.step st3.gg st3.ex) ⟨z, hP, oc_lst D u _ upd_same (OC.ok_mono e hok)⟩
theorem ez_lc0 {xz : β → List α} (hl : EvZ p cz t O tl (rEx P fun z => rLst ((xz z).map f))) (hz : ∀ z, P z → (xz z).length ≤ sizeLine)
    (hs : ∀ z, P z → ∀ x, x ∈ xz z → ∃ t2 us, TgT g (f x) (wt t vs) t2 us ∧ (∀ u ∈ us, u ∈ vs) ∧ EvT t2 O te (r x)) :
    EvZ p cz t O (tLc (iList K tl) g tYes te vs) (rEx P fun z => rLst ((xz z).map r)) :=
  (ez_lc (r := r) (c := fun _ => true) (tt := tYes) hl hz fun z hP x hx => by
    obtain ⟨t2, us, h1, h2, h3⟩ := hs z hP x hx
    exact ⟨t2, us, h1, h2, eb_yes, fun _ => h3⟩).sub fun v G ⟨z, hP, hv⟩ => ⟨z, hP, by
    have hv : (rLst (((xz z).filter fun _ => true).map r)).p v G := hv
    rw [List.filter_eq_self.mpr fun _ _ => rfl] at hv
    exact hv⟩
/-- dict([(key, value), ..]), the keys tuples -/
theorem en_dictPT {r : List (List Key × Rp)} (h : EvT t O te (rLst (r.map fun e => rTup [rKT e.1, e.2]))) : EvN t O (tCB (rDictPT K) (tCons te tNil)) (.dT (pkAll [] r)) := fun s G H T o sb Q q => h s G H T o sb _ fun v G1 H1 s1 hv => by
  obtain ⟨a, xs, rfl, ha, hx⟩ := hv
  have key : ∀ {xs : List V} {r : List (List Key × Rp)}, All2 xs (r.map fun e => rTup [rKT e.1, e.2]) G1 → ∃ (ps : List Addr) (es : List (List Key × Addr × V)), xs = ps.map V.ref ∧ AllK (es.map fun e => (e.1, e.2.2)) r G1 ∧ Paired (fun p e => SqT K H1 p [.ref e.2.1, e.2.2] ∧ H1 e.2.1 = some (.tup (e.1.map kV))) ps es := by
    intro xs
    induction xs with
    | nil =>
      intro r h
      match r, h with
      | [], _ => exact ⟨[], [], rfl, trivial, .nil⟩
    | cons x xs ih =>
      intro r h
      match r, h with
      | e0 :: r, h =>
        obtain ⟨ps, es, e1, e2, e3⟩ := ih h.2
        obtain ⟨b, us, rfl, hb, hus⟩ := h.1
        match us, hus with
        | [u1, u2], hus =>
          obtain ⟨c, rfl, hc⟩ := rKT_at hus.1
          exact ⟨b :: ps, (e0.1, c, u2) :: es, by rw [e1]; rfl, ⟨⟨rfl, hus.2.1⟩, e2⟩, .cons ⟨s1.sub.tup hb, s1.sub.at_ hc rfl⟩ e3⟩
  obtain ⟨ps, es, rfl, ek, pr⟩ := key hx
  refine ⟨a, ps, es, rfl, s1.sub.lst ha, pr, fun p hp => ?_⟩
  have hp0 : H p = none := by
    cases z : H p with
    | none => rfl
    | some u => rw [s1.ex p u z] at hp; cases hp
  have put : ∀ {es : List (List Key × V)} {r l : List (List Key × Rp)} {l0 : List (List Key × V)}, AllK l0 l G1 → AllK es r G1 → AllK (putAll l0 es) (pkAll l r) G1 := by
    intro es
    induction es with
    | nil =>
      intro r l l0 h0 h
      match r, h with
      | [], _ => exact h0
    | cons x es ih =>
      intro r l l0 h0 h
      match r, h with
      | y :: r, h =>
        obtain ⟨k, v⟩ := x
        obtain ⟨k', R⟩ := y
        have e1 : k = k' := h.1.1
        subst e1
        show AllK (putAll (putK l0 k v) es) (pkAll (pk l k R) r) G1
        exact ih (l := pk l k R) (l0 := putK l0 k v) (AllK.put h0 h.1.2) h.2
  exact q p _ G1 _ (s1.trans (Step.newH s1.sub hp)) hp0 (s1.sub.none hp) upd_same (put (l := []) (l0 := []) trivial ek)
end
end Rz
set_option Elab.async false
set_option linter.all false
set_option maxRecDepth 100000
set_option maxHeartbeats 4000000
/-! Rz38: e1 if test else e2, the test changing an object; a call whose objects are known. Own work. -/
namespace Rz
open PySem PySem.Spec L2
section
variable {K : PySem.W.Frag} {t : Tys} {O : Os} {ta tb te : TE} {tt : TT} {tr : TA} {R : Rp} {p : Addr} {c : OC} {α : Type}
theorem ez_ifE {bp : Bool → Prop} (h : EbZ p c t O tt bp) (h1 : bp true → EvZ p c t O ta R) (h2 : bp false → EvZ p c t O tb R) : EvZ p c t O (tIf tt ta tb) R := fun hb s G H T o sb hg Q q => h hb s G H T o sb hg _ fun x G1 H1 hx s1 o1 => by
  have hg1 : G1 p = none := hb.keep o hg s1
  cases x with
  | true => exact iteT (h1 hx hb s G1 H1 (T.mono s1.gg) o1 s1.sub hg1 _ fun v G2 H2 s2 o2 hv => q v G2 H2 (s1.trans s2) o2 hv)
  | false => exact iteF (h2 hx hb s G1 H1 (T.mono s1.gg) o1 s1.sub hg1 _ fun v G2 H2 s2 o2 hv => q v G2 H2 (s1.trans s2) o2 hv)
/-- a call; what it asks of its objects is found from the values -/
theorem ev_callG {Rs : α → List Rp} {Oa : α → Os} {pre : α → Prop} {Rr : α → Rp} {E : XK} {Ra : List Rp} (ha : EvA t O tr Ra) (hx : ∀ vs G H, All2 vs Ra G → Sub G H → RO O G H → ∃ x, pre x ∧ All2 vs (Rs x) G ∧ RO (Oa x) G H ∧ Rr x = R) : EvT t O (tCall (Prm Rs Oa pre Rr) [] E tr) R := fun s G H T o sb Q q =>
  ha s G H T o sb _ fun vs G1 H1 s1 hvs => by
    obtain ⟨x, h1, h2, h3, h4⟩ := hx vs G1 H1 hvs s1.sub (o.step s1.gg s1.ex)
    exact ⟨x, G1, h1, by rw [List.append_nil]; exact h2, h3, s1.sub, fun v G' H' st hv => q v G' H' (s1.trans st) (h4 ▸ hv)⟩
theorem EvN.to {c' : OC} (h : EvN t O te c) (e : c = c') : EvN t O te c' := e ▸ h
theorem ebz_or {tu : TT} {b1 : Bool} {bp : Bool → Prop} (h1 : EvB t O tt b1) (h2 : b1 = false → EbZ p c t O tu bp) (hf : b1 = true → bp true) : EbZ p c t O (tOr tt tu) bp := fun hb s G H T o sb hg Q q => h1 s G H T o sb _ fun G1 H1 s1 => by
  have s1' : Step [p] G H G1 H1 := s1.any
  cases b1 with
  | true => exact iteT (q _ G1 H1 (hf rfl) s1' (o.step s1.gg s1.ex))
  | false => exact iteF (h2 rfl hb s G1 H1 (T.mono s1.gg) (o.step s1.gg s1.ex) s1.sub (hb.keep o hg s1') _ fun x G2 H2 hx s2 o2 => q x G2 H2 hx (s1'.trans s2) o2)
theorem vo_eqP {k j : Int × Int} : VO O (rEqD K) (rTI [k.1, k.2]) (rTI [j.1, j.2]) (rBl (decide (k = j))) := by
  have h := vo_eqT (K := K) (O := O) (ns := [k.1, k.2]) (ms := [j.1, j.2])
  have e : decide ([k.1, k.2] = [j.1, j.2]) = decide (k = j) := decide_eq_decide.mpr ⟨fun h => by
    simp only [List.cons.injEq, and_true] at h
    exact Prod.ext h.1 h.2, fun h => by rw [h]⟩
  rw [e] at h
  exact h
end
end Rz
set_option Elab.async false
set_option linter.all false
set_option maxRecDepth 100000
set_option maxHeartbeats 4000000
/-! Rz39: return [a, b, c, a new object]. Own work. -/
namespace Rz
open PySem PySem.Spec L2
section
variable {K : PySem.W.Frag} {Y : List Addr} {t : Tys} {O : Os} {W : List Addr} {t1 t2 t3 t4 : TE} {R1 R2 R3 : Rp} {c : OC} {Nx : Nxt} {Rt : Rts}
theorem ht_retL4N (h1 : EvT t O t1 R1) (h2 : EvT t O t2 R2) (h3 : EvT t O t3 R3) (h4 : EvN t O t4 c) (hm : c.may = true := by rfl) (k : ∀ q, Rt (rLst [R1, R2, R3, rRef q]) ((q, c) :: O) (q :: W)) : HT Y t O W (tRet (tLst (tCons t1 (tCons t2 (tCons t3 (tCons t4 tNil)))))) Nx Rt := fun b s H ⟨G, a⟩ D n r =>
  atT (te := t1) h1 a fun v1 G1 H1 a1 e1 g1 => atT (te := t2) h2 a1 fun v2 G2 H2 a2 e2 g2 => atT (te := t3) h3 a2 fun v3 G3 H3 a3 e3 g3 => atN (te := t4) h4 hm a3 fun q G4 H4 a4 e4 => by
    refine ⟨by simp only [List.length_cons, List.length_nil]; decide, fun p hp => ?_⟩
    have st : Step [] G4 H4 (upd G4 p (.lst [v1, v2, v3, .ref q])) (upd H4 p (.lst [v1, v2, v3, .ref q])) := Step.new a4.sub hp
    have a5 := a4.step st
    have e5 : Ex G4 (upd G4 p (.lst [v1, v2, v3, .ref q])) := st.gg
    refine r (rLst [R1, R2, R3, rRef q]) _ _ _ _ _ (k q) a5.st ⟨p, [v1, v2, v3, .ref q], rfl, upd_same, ?_⟩ a5.ro fun x hx => ⟨(a5.w x hx).1, (a5.w x hx).2.2⟩
    exact ⟨R1.mono _ _ _ e5 (R1.mono _ _ _ e4 (R1.mono _ _ _ e3 (R1.mono _ _ _ e2 g1))), R2.mono _ _ _ e5 (R2.mono _ _ _ e4 (R2.mono _ _ _ e3 g2)), R3.mono _ _ _ e5 (R3.mono _ _ _ e4 g3), rfl, trivial⟩
end
end Rz
set_option Elab.async false
set_option linter.all false
set_option maxRecDepth 100000
set_option maxHeartbeats 4000000
/-! Rz40: calls that change an object, of arguments not wholly known; tests that change it. Own work. -/
namespace Rz
open PySem PySem.Spec L2
section
variable {K : PySem.W.Frag} {Y : List Addr} {t : Tys} {O : Os} {W : List Addr} {te : TE} {tt : TT} {tr : TA} {ts tu : TS} {Nx : Nxt} {Rt : Rts} {p : Addr} {c : OC} {α : Type}
theorem ez_callMZ {Rs : α → Addr → List Rp} {ca : α → OC} {Oa : α → Os} {pre : α → Prop} {post : α → OC → Prop} {Rr : α → Rp} {E : XK} {Ra : List Rp} {Z : α → Prop} (ha : EaZ p c t O tr Ra) (hx : ∀ vs G, All2 vs Ra G → ∃ x, Z x ∧ All2 vs (Rs x p) G) (hc : ∀ x, Z x → ca x = c) (hp : ∀ x, Z x → pre x) (hpost : ∀ x, Z x → ∀ c', post x c' → c' = c) (ho : ∀ x, Z x → ∀ e ∈ Oa x, e ∈ O) (nd : ∀ x, Z x → ((Oa x).map (·.1)).Nodup) (np : ∀ x, Z x → ∀ e ∈ Oa x, e.1 ≠ p) :
    EvZ p c t O (tCall (PrmM Rs ca Oa pre post Rr) [] E tr) (rEx Z Rr) := fun hb s G H T o sb hg Q q =>
  ha hb s G H T o sb hg _ fun vs G1 H1 s1 o1 hvs => by
    obtain ⟨x, hz, h2⟩ := hx vs G1 hvs
    refine ⟨x, G1, p, hp x hz, by rw [List.append_nil]; exact h2, fun e he => ?_, List.nodup_cons.mpr ⟨fun hm => ?_, nd x hz⟩, hb.keep o hg s1, s1.sub, fun v G' H' c' hc' st ro hv => ?_⟩
    · rcases List.mem_cons.mp he with rfl | he
      · rw [hc x hz]; exact o1 _ hb.1
      · exact o1 e (ho x hz e he)
    · obtain ⟨e, he, ee⟩ := List.mem_map.mp hm
      exact np x hz e he ee
    · have e := hpost x hz c' hc'
      subst e
      exact q v G' H' (s1.trans st) (RO.stepZ hb o1 st ro) ⟨x, hz, hv⟩
theorem ht_ifZ {k : Nat} {bp : Bool → Prop} (h : EbZ p c t O tt bp) (hk : O[k]? = some (p, c)) (hy : p ∈ Y) (hm : c.may = true := by rfl) (h1 : bp true → HT Y t O W ts Nx Rt) (h2 : bp false → HT Y t O W tu Nx Rt) : HT Y t O W (tIfS tt ts tu) Nx Rt := fun b s H ⟨G, a⟩ D n r =>
  h (a.box hk hm) s G H a.ty a.ro a.sub (a.y p hy).1 _ fun x G' H' hx st ro => by
    have a' := a.stepZ hy (a.box hk hm) st ro
    cases x with
    | true => exact iteT (h1 hx b s H' ⟨G', a'⟩ D n r)
    | false => exact iteF (h2 hx b s H' ⟨G', a'⟩ D n r)
theorem ebz_not {bp : Bool → Prop} (h : EbZ p c t O tt bp) : EbZ p c t O (tNot tt) (fun v => bp (!v)) := fun hb s G H T o sb hg Q q => h hb s G H T o sb hg _ fun x G' H' hx st o' => q (!x) G' H' (by show bp (!!x); rw [Bool.not_not]; exact hx) st o'
end
end Rz
set_option Elab.async false
set_option linter.all false
set_option maxRecDepth 100000
set_option maxHeartbeats 4000000
/-! flows and cuts, plain: no program here. Own work. -/
namespace Cut
open Rz

/-! ### sums -/
def sm (V : List Int) (f : Int → Int) : Int := (V.map f).sum
theorem sm_nil {f : Int → Int} : sm [] f = 0 := rfl
theorem sm_cons {x : Int} {V : List Int} {f : Int → Int} : sm (x :: V) f = f x + sm V f := by simp [sm]
theorem sm_add {V : List Int} {f g : Int → Int} : sm V (fun x => f x + g x) = sm V f + sm V g := by
  induction V with
  | nil => rfl
  | cons x V ih => rw [sm_cons, sm_cons, sm_cons, ih]; omega
theorem sm_neg {V : List Int} {f : Int → Int} : sm V (fun x => - f x) = - sm V f := by
  induction V with
  | nil => rfl
  | cons x V ih => rw [sm_cons, sm_cons, ih]; omega
theorem sm_zero {V : List Int} : sm V (fun _ => 0) = 0 := by
  induction V with
  | nil => rfl
  | cons x V ih => rw [sm_cons, ih]; omega
theorem sm_le {V : List Int} {f g : Int → Int} (h : ∀ x ∈ V, f x ≤ g x) : sm V f ≤ sm V g := by
  induction V with
  | nil => exact Int.le_refl _
  | cons x V ih =>
    rw [sm_cons, sm_cons]
    have h1 := h x List.mem_cons_self
    have h2 := ih fun y hy => h y (List.mem_cons_of_mem _ hy)
    omega
theorem sm_congr {V : List Int} {f g : Int → Int} (h : ∀ x ∈ V, f x = g x) : sm V f = sm V g := by
  unfold sm
  rw [List.map_congr_left h]
/-- equal sums of smaller terms: all equal -/
theorem sm_eq {V : List Int} {f g : Int → Int} (h : ∀ x ∈ V, f x ≤ g x) (e : sm V f = sm V g) : ∀ x ∈ V, f x = g x := by
  induction V with
  | nil => exact fun _ h => nomatch h
  | cons y V ih =>
    rw [sm_cons, sm_cons] at e
    have h1 := h y List.mem_cons_self
    have h2 := sm_le fun z hz => h z (List.mem_cons_of_mem _ hz)
    intro x hx
    rcases List.mem_cons.mp hx with rfl | hx
    · omega
    · exact ih (fun z hz => h z (List.mem_cons_of_mem _ hz)) (by omega) x hx
theorem sm_swap {V W : List Int} {g : Int → Int → Int} : sm V (fun x => sm W fun y => g x y) = sm W (fun y => sm V fun x => g x y) := by
  induction V with
  | nil => show (0 : Int) = sm W (fun _ => sm [] _); simp only [sm_nil]; exact sm_zero.symm
  | cons x V ih =>
    rw [sm_cons, ih, ← sm_add]
    exact sm_congr fun y _ => (sm_cons (f := fun x => g x y)).symm
/-- one term alone -/
theorem sm_one {V : List Int} {a c : Int} (nd : V.Nodup) (ha : a ∈ V) : sm V (fun x => if x = a then c else 0) = c := by
  induction V with
  | nil => cases ha
  | cons y V ih =>
    rw [sm_cons]
    obtain ⟨h1, h2⟩ := List.nodup_cons.mp nd
    by_cases e : y = a
    · subst e
      have : sm V (fun x => if x = y then c else 0) = 0 := by
        rw [sm_congr (g := fun _ => 0) fun x hx => if_neg fun e => h1 (by rw [← e]; exact hx)]; exact sm_zero
      rw [if_pos rfl, this]; omega
    · rw [if_neg e, ih h2 (by
        rcases List.mem_cons.mp ha with z | z
        · exact absurd z.symm e
        · exact z)]; omega

/-! ### maps of pairs -/
abbrev PM := List ((Int × Int) × Int)
/-- what a map of pairs holds, 0 where it holds nothing -/
def gt (l : PM) (u v : Int) : Int := (lk l (u, v)).getD 0
def Anti (f : PM) : Prop := ∀ u v, gt f u v = - gt f v u
/-- what flows out at x -/
def ex (V : List Int) (f : PM) (x : Int) : Int := sm V fun y => gt f x y
/-- of one step: the flow along (u, v) grows by a -/
def put2 (f : PM) (u v a : Int) : PM := pk (pk f (u, v) (gt f u v + a)) (v, u) (-(gt f u v + a))
theorem gt_pk {f : PM} {u v x y a : Int} : gt (pk f (u, v) a) x y = if u = x ∧ v = y then a else gt f x y := by
  unfold gt
  rw [lk_pk]
  by_cases h : u = x ∧ v = y
  · rw [if_pos h, if_pos (by rw [h.1, h.2])]; rfl
  · rw [if_neg h, if_neg fun e => h ⟨congrArg Prod.fst e, congrArg Prod.snd e⟩]
theorem gt_put2 {f : PM} {u v x y a : Int} (hf : Anti f) (hne : u ≠ v) : gt (put2 f u v a) x y = gt f x y + (if u = x ∧ v = y then a else 0) - (if v = x ∧ u = y then a else 0) := by
  unfold put2
  rw [gt_pk, gt_pk]
  by_cases h1 : v = x ∧ u = y
  · obtain ⟨rfl, rfl⟩ := h1
    have h2 : ¬ (u = v ∧ v = u) := fun e => hne e.1
    rw [if_pos ⟨rfl, rfl⟩, if_neg h2, if_pos ⟨rfl, rfl⟩, hf v u]; omega
  · by_cases h2 : u = x ∧ v = y
    · obtain ⟨rfl, rfl⟩ := h2
      rw [if_neg h1, if_pos ⟨rfl, rfl⟩, if_pos ⟨rfl, rfl⟩, if_neg h1]; omega
    · rw [if_neg h1, if_neg h2, if_neg h2, if_neg h1]; omega
theorem anti_put2 {f : PM} {u v a : Int} (hf : Anti f) (hne : u ≠ v) : Anti (put2 f u v a) := fun x y => by
  rw [gt_put2 hf hne, gt_put2 hf hne, hf x y]
  have e1 : (v = y ∧ u = x) ↔ (u = x ∧ v = y) := And.comm
  have e2 : (u = y ∧ v = x) ↔ (v = x ∧ u = y) := And.comm
  simp only [e1, e2]; omega
theorem ex_put2 {V : List Int} {f : PM} {u v a x : Int} (nd : V.Nodup) (hu : u ∈ V) (hv : v ∈ V) (hf : Anti f) (hne : u ≠ v) : ex V (put2 f u v a) x = ex V f x + (if x = u then a else 0) - (if x = v then a else 0) := by
  show sm V (fun y => gt (put2 f u v a) x y) = _
  rw [sm_congr (g := fun y => gt f x y + ((if y = v then (if x = u then a else 0) else 0) + - (if y = u then (if x = v then a else 0) else 0))) fun y _ => by
    rw [gt_put2 hf hne]
    by_cases h1 : x = u
    · subst h1
      have h2 : ¬ x = v := hne
      by_cases h3 : y = v
      · subst h3; simp [hne, Ne.symm hne]
      · simp [h3, h2, Ne.symm h3, Ne.symm h2]
    · by_cases h2 : x = v
      · subst h2
        by_cases h3 : y = u
        · subst h3; simp [h1, hne, Ne.symm h1]; try omega
        · simp [h1, h3, Ne.symm h3, Ne.symm h1]
      · simp [h1, h2, Ne.symm h1, Ne.symm h2]]
  rw [sm_add, sm_add, sm_neg, sm_one nd hv, sm_one nd hu]
  show ex V f x + _ = _
  omega

/-! ### a way -/
/-- steps from x to y -/
def Chain : Int → List (Int × Int) → Int → Prop
  | x, [], y => x = y
  | x, s :: r, y => s.1 = x ∧ Chain s.2 r y
def pushed (f : PM) (st : List (Int × Int)) (a : Int) : PM := st.foldl (fun f s => put2 f s.1 s.2 a) f
/-- a flow within the capacities c -/
structure FlowOk (V : List Int) (c f : PM) : Prop where
  anti : Anti f
  le : ∀ u v, gt f u v ≤ gt c u v
theorem pushed_ok {V : List Int} {c : PM} {a : Int} (nd : V.Nodup) (ha : 0 ≤ a) : ∀ {st : List (Int × Int)} {f : PM} {x y : Int}, FlowOk V c f → Chain x st y → st.Nodup → (∀ s ∈ st, s.1 ∈ V ∧ s.2 ∈ V ∧ s.1 ≠ s.2 ∧ a ≤ gt c s.1 s.2 - gt f s.1 s.2) →
    FlowOk V c (pushed f st a) ∧ ∀ z, ex V (pushed f st a) z = ex V f z + (if z = x then a else 0) - (if z = y then a else 0)
  | [], f, x, y, hf, hc, _, _ => ⟨hf, fun z => by
      have hc : x = y := hc
      subst hc
      show ex V f z = _
      omega⟩
  | s :: st, f, x, y, hf, hc, hn, hs => by
    obtain ⟨h1, h2, h3, h4⟩ := hs s List.mem_cons_self
    obtain ⟨n1, n2⟩ := List.nodup_cons.mp hn
    have hf2 : FlowOk V c (put2 f s.1 s.2 a) := by
      refine ⟨anti_put2 hf.anti h3, fun u v => ?_⟩
      rw [gt_put2 hf.anti h3]
      have hle := hf.le u v
      by_cases e1 : s.1 = u ∧ s.2 = v
      · obtain ⟨e1, e2⟩ := e1
        rw [if_pos ⟨e1, e2⟩, ← e1, ← e2]
        split <;> omega
      · rw [if_neg e1]
        split <;> omega
    obtain ⟨g1, g2⟩ := pushed_ok nd ha (st := st) (f := put2 f s.1 s.2 a) (x := s.2) (y := y) hf2 hc.2 n2 fun r hr => by
      obtain ⟨k1, k2, k3, k4⟩ := hs r (List.mem_cons_of_mem _ hr)
      refine ⟨k1, k2, k3, ?_⟩
      rw [gt_put2 hf.anti h3]
      have ne : ¬ (s.1 = r.1 ∧ s.2 = r.2) := fun e => n1 (by
        have : s = r := Prod.ext e.1 e.2
        rw [this]; exact hr)
      rw [if_neg ne]
      split <;> omega
    refine ⟨g1, fun z => ?_⟩
    have e0 := g2 z
    rw [ex_put2 nd h1 h2 hf.anti h3] at e0
    have hx : s.1 = x := hc.1
    show ex V (pushed (put2 f s.1 s.2 a) st a) z = _
    rw [e0, hx]; omega

/-! ### cuts -/
/-- the capacity over the border of p, by pairs of nodes -/
def cutV (V : List Int) (c : PM) (p : Int → Bool) : Int := sm V fun x => sm V fun y => if (p x && !p y) = true then gt c x y else 0
/-- what flows out at the nodes of p -/
def outOf (V : List Int) (f : PM) (p : Int → Bool) : Int := sm V fun x => if p x = true then ex V f x else 0
theorem out_cross {V : List Int} {f : PM} {p : Int → Bool} (hf : Anti f) : outOf V f p = sm V fun x => sm V fun y => if (p x && !p y) = true then gt f x y else 0 := by
  have inner : sm V (fun x => sm V fun y => if (p x && p y) = true then gt f x y else 0) = 0 := by
    have h1 : sm V (fun x => sm V fun y => if (p x && p y) = true then gt f x y else 0) = - sm V (fun x => sm V fun y => if (p x && p y) = true then gt f x y else 0) := by
      conv => lhs; rw [sm_swap]
      rw [← sm_neg]
      refine sm_congr fun x _ => ?_
      rw [← sm_neg]
      refine sm_congr fun y _ => ?_
      rw [Bool.and_comm]
      split
      · exact hf y x
      · rfl
    omega
  have h2 : outOf V f p = sm V (fun x => sm V (fun y => if (p x && !p y) = true then gt f x y else 0) + sm V fun y => if (p x && p y) = true then gt f x y else 0) := by
    unfold outOf
    refine sm_congr fun x _ => ?_
    rw [← sm_add]
    by_cases hp : p x = true
    · rw [if_pos hp]
      unfold ex
      refine sm_congr fun y _ => ?_
      cases p y <;> simp [hp]
    · simp only [Bool.not_eq_true] at hp
      rw [if_neg (by simp [hp])]
      rw [sm_congr (g := fun _ => (0 : Int)) fun y _ => by simp [hp]]
      exact sm_zero.symm
  rw [h2, sm_add, inner]; omega
/-- a side of the cuts between src and snk -/
def Parts (V src snk : List Int) (p : Int → Bool) : Prop := (∀ x ∈ V, x ∈ src → p x = true) ∧ (∀ x ∈ V, x ∈ snk → p x = false)
structure Flow (V src snk : List Int) (c f : PM) : Prop where
  ok : FlowOk V c f
  cons : ∀ x ∈ V, x ∉ src → x ∉ snk → ex V f x = 0
def val (V src : List Int) (f : PM) : Int := outOf V f fun x => decide (x ∈ src)
theorem val_out {V src snk : List Int} {c f : PM} {p : Int → Bool} (F : Flow V src snk c f) (dj : ∀ x ∈ src, x ∉ snk) (h : Parts V src snk p) : val V src f = outOf V f p := by
  refine sm_congr fun x hx => ?_
  by_cases h1 : x ∈ src
  · rw [if_pos (decide_eq_true h1), if_pos (h.1 x hx h1)]
  · rw [if_neg (by simp [h1])]
    by_cases h2 : x ∈ snk
    · rw [if_neg (by rw [h.2 x hx h2]; simp)]
    · split
      · exact (F.cons x hx h1 h2).symm
      · rfl
/-- closed: no room over its border -/
def Closed (V : List Int) (c f : PM) (p : Int → Bool) : Prop := ∀ x ∈ V, ∀ y ∈ V, p x = true → 0 < gt c x y - gt f x y → p y = true
theorem val_le {V src snk : List Int} {c f : PM} {p : Int → Bool} (F : Flow V src snk c f) (dj : ∀ x ∈ src, x ∉ snk) (h : Parts V src snk p) : val V src f ≤ cutV V c p := by
  rw [val_out F dj h, out_cross F.ok.anti]
  refine sm_le fun x _ => sm_le fun y _ => ?_
  split
  · exact F.ok.le x y
  · exact Int.le_refl _
theorem val_eq {V src snk : List Int} {c f : PM} {p : Int → Bool} (F : Flow V src snk c f) (dj : ∀ x ∈ src, x ∉ snk) (h : Parts V src snk p) : val V src f = cutV V c p ↔ Closed V c f p := by
  rw [val_out F dj h, out_cross F.ok.anti]
  constructor
  · intro e x hx y hy px room
    have h1 := sm_eq (fun x _ => sm_le fun y _ => by
      show (if (p x && !p y) = true then gt f x y else 0) ≤ (if (p x && !p y) = true then gt c x y else 0)
      split
      · exact F.ok.le x y
      · exact Int.le_refl _) e x hx
    have h2 := sm_eq (fun y _ => by
      show (if (p x && !p y) = true then gt f x y else 0) ≤ (if (p x && !p y) = true then gt c x y else 0)
      split
      · exact F.ok.le x y
      · exact Int.le_refl _) h1 y hy
    cases hp : p y with
    | true => rfl
    | false =>
      have h3 : (p x && !p y) = true := by rw [px, hp]; rfl
      simp only [h3, if_true] at h2
      omega
  · intro cl
    refine sm_congr fun x hx => sm_congr fun y hy => ?_
    split
    · rename_i h3
      rw [Bool.and_eq_true] at h3
      have h4 : ¬ 0 < gt c x y - gt f x y := fun r => by
        have := cl x hx y hy h3.1 r
        rw [this] at h3; simp at h3
      have := F.ok.le x y
      omega
    · rfl

/-! ### cuts by edges -/
def cutE (l : PM) (p : Int → Bool) : Int := (l.map fun e => if (p e.1.1 && !p e.1.2) = true then e.2 else 0).sum
theorem sm2_one {V : List Int} {a b c : Int} (nd : V.Nodup) (ha : a ∈ V) (hb : b ∈ V) : sm V (fun x => sm V fun y => if x = a ∧ y = b then c else 0) = c := by
  rw [sm_congr (g := fun x => if x = a then c else 0) fun x _ => by
    by_cases h : x = a
    · rw [if_pos h]
      rw [sm_congr (g := fun y => if y = b then c else 0) fun y _ => by simp [h]]
      exact sm_one nd hb
    · rw [if_neg h]
      rw [sm_congr (g := fun _ => 0) fun y _ => by simp [h]]
      exact sm_zero]
  exact sm_one nd ha
theorem cut_edges {V : List Int} {p : Int → Bool} (nd : V.Nodup) : ∀ {l : PM}, (l.map (·.1)).Nodup → (∀ e ∈ l, e.1.1 ∈ V ∧ e.1.2 ∈ V) → cutV V l p = cutE l p
  | [], _, _ => by
    unfold cutV cutE
    rw [sm_congr (g := fun _ => 0) fun x _ => by
      rw [sm_congr (g := fun _ => 0) fun y _ => by
        show (if _ then gt [] x y else 0) = 0
        split <;> rfl]
      exact sm_zero]
    exact sm_zero
  | e :: l, hn, hv => by
    obtain ⟨n1, n2⟩ := List.nodup_cons.mp hn
    obtain ⟨v1, v2⟩ := hv e List.mem_cons_self
    have ih := cut_edges (p := p) nd n2 fun e he => hv e (List.mem_cons_of_mem _ he)
    have split1 : ∀ x y, (if (p x && !p y) = true then gt (e :: l) x y else 0) = (if (p x && !p y) = true then gt l x y else 0) + (if x = e.1.1 ∧ y = e.1.2 then (if (p e.1.1 && !p e.1.2) = true then e.2 else 0) else 0) := fun x y => by
      unfold gt
      rw [lk_cons]
      obtain ⟨⟨a, b⟩, w⟩ := e
      show (if (p x && !p y) = true then (if (a, b) = (x, y) then some w else lk l (x, y)).getD 0 else 0) = (if (p x && !p y) = true then (lk l (x, y)).getD 0 else 0) + (if x = a ∧ y = b then (if (p a && !p b) = true then w else 0) else 0)
      by_cases h : (a, b) = (x, y)
      · have h0 : lk l (x, y) = none := lk_none.mpr (by rw [← h]; exact n1)
        obtain ⟨hx, hy⟩ := Prod.mk.inj h
        rw [if_pos h, if_pos (show x = a ∧ y = b from ⟨hx.symm, hy.symm⟩), h0, ← hx, ← hy]
        show (if (p a && !p b) = true then w else 0) = (if (p a && !p b) = true then 0 else 0) + (if (p a && !p b) = true then w else 0)
        split <;> omega
      · have h2 : ¬ (x = a ∧ y = b) := fun z => h (by rw [z.1, z.2])
        rw [if_neg h, if_neg h2]; omega
    show cutV V (e :: l) p = (if (p e.1.1 && !p e.1.2) = true then e.2 else 0) + cutE l p
    rw [← ih]
    unfold cutV
    rw [sm_congr (g := fun x => sm V (fun y => if (p x && !p y) = true then gt l x y else 0) + sm V fun y => if x = e.1.1 ∧ y = e.1.2 then (if (p e.1.1 && !p e.1.2) = true then e.2 else 0) else 0) fun x _ => by
      rw [← sm_add]
      exact sm_congr fun y _ => split1 x y]
    rw [sm_add, sm2_one nd v1 v2]; omega
end Cut
set_option Elab.async false
set_option linter.all false
set_option maxRecDepth 100000
set_option maxHeartbeats 4000000
/-! least cuts: the smallest and the largest side; what the borders' capacities obey. Own work. -/
namespace Cut
open Rz

/-- the smallest and the largest of the least sides -/
structure MinPair (V src snk : List Int) (c : (Int → Bool) → Int) (a b : Int → Bool) : Prop where
  pa : Parts V src snk a
  pb : Parts V src snk b
  least : ∀ p, Parts V src snk p → c a ≤ c p
  eqb : c b = c a
  low : ∀ p, Parts V src snk p → c p = c a → ∀ x ∈ V, a x = true → p x = true
  high : ∀ p, Parts V src snk p → c p = c a → ∀ x ∈ V, p x = true → b x = true
theorem min_pair {V src snk : List Int} {c f : PM} {R T : Int → Bool} (F : Flow V src snk c f) (dj : ∀ x ∈ src, x ∉ snk)
    (r1 : ∀ x ∈ V, x ∈ src → R x = true) (r2 : ∀ x ∈ V, x ∈ snk → R x = false) (r3 : Closed V c f R) (r4 : ∀ p, (∀ x ∈ V, x ∈ src → p x = true) → Closed V c f p → ∀ x ∈ V, R x = true → p x = true)
    (t1 : ∀ x ∈ V, x ∈ snk → T x = true) (t3 : Closed V c f fun x => !T x) (t4 : ∀ p, (∀ x ∈ V, x ∈ snk → p x = false) → Closed V c f p → ∀ x ∈ V, T x = true → p x = false) : MinPair V src snk (cutV V c) R (fun x => !T x) := by
  have hR : Parts V src snk R := ⟨r1, r2⟩
  have hB1 : ∀ x ∈ V, x ∈ src → (!T x) = true := fun x hx hs => by
    have h1 := t4 R r2 r3 x hx
    cases ht : T x with
    | false => rfl
    | true =>
      have h2 := h1 ht
      rw [r1 x hx hs] at h2; cases h2
  have hB2 : ∀ x ∈ V, x ∈ snk → (!T x) = false := fun x hx hs => by rw [t1 x hx hs]; rfl
  have hB : Parts V src snk (fun x => !T x) := ⟨hB1, hB2⟩
  have eR := (val_eq F dj hR).mpr r3
  have eB := (val_eq F dj hB).mpr t3
  refine ⟨hR, hB, fun p hp => by rw [← eR]; exact val_le F dj hp, by rw [← eB, eR], fun p hp e x hx hr => ?_, fun p hp e x hx hr => ?_⟩
  · exact r4 p hp.1 ((val_eq F dj hp).mp (eR.trans e.symm)) x hx hr
  · have h1 := t4 p hp.2 ((val_eq F dj hp).mp (eR.trans e.symm)) x hx
    show (!T x) = true
    cases ht : T x with
    | false => rfl
    | true => rw [h1 ht] at hr; cases hr
theorem MinPair.congr {V src snk : List Int} {c d : (Int → Bool) → Int} {a b : Int → Bool} (m : MinPair V src snk c a b) (e : ∀ p, d p = c p) : MinPair V src snk d a b :=
  ⟨m.pa, m.pb, fun p hp => by rw [e, e]; exact m.least p hp, by rw [e, e]; exact m.eqb, fun p hp h => m.low p hp (by rw [← e, h, e]), fun p hp h => m.high p hp (by rw [← e, h, e])⟩
theorem MinPair.uniq {V src snk : List Int} {c : (Int → Bool) → Int} {a b a' b' : Int → Bool} (m : MinPair V src snk c a b) (n : MinPair V src snk c a' b') : c a = c a' ∧ (∀ x ∈ V, a x = a' x) ∧ ∀ x ∈ V, b x = b' x := by
  have e : c a = c a' := Int.le_antisymm (m.least _ n.pa) (n.least _ m.pa)
  have both : ∀ {p q : Bool}, (p = true → q = true) → (q = true → p = true) → p = q := fun {p q} h1 h2 => by
    cases p <;> cases q <;> simp_all
  refine ⟨e, fun x hx => both (m.low _ n.pa e.symm x hx) (n.low _ m.pa e x hx), fun x hx => both (n.high _ m.pb (m.eqb.trans e) x hx) (m.high _ n.pb (n.eqb.trans e.symm) x hx)⟩

/-! ### edges -/
abbrev Edges := List (Int × Int × Int)
/-- an edge leaves p -/
def leaves (dir : Bool) (p : Int → Bool) (e : Int × Int × Int) : Bool := (p e.1 && !p e.2.1) || (!dir && (p e.2.1 && !p e.1))
def cutp (dir : Bool) (el : Edges) (p : Int → Bool) : Int := (el.map fun e => if leaves dir p e = true then e.2.2 else 0).sum
theorem cutp_nil {dir : Bool} {p : Int → Bool} : cutp dir [] p = 0 := rfl
theorem cutp_cons {dir : Bool} {e : Int × Int × Int} {el : Edges} {p : Int → Bool} : cutp dir (e :: el) p = (if leaves dir p e = true then e.2.2 else 0) + cutp dir el p := by simp [cutp]
theorem cutp_perm {dir : Bool} {el el' : Edges} (h : el.Perm el') {p : Int → Bool} : cutp dir el p = cutp dir el' p := by
  induction h with
  | nil => rfl
  | cons x _ ih => rw [cutp_cons, cutp_cons, ih]
  | swap x y l => rw [cutp_cons, cutp_cons, cutp_cons, cutp_cons]; omega
  | trans _ _ h1 h2 => rw [h1, h2]
theorem cutp_congr {dir : Bool} {el : Edges} {p q : Int → Bool} (h : ∀ e ∈ el, p e.1 = q e.1 ∧ p e.2.1 = q e.2.1) : cutp dir el p = cutp dir el q := by
  unfold cutp
  rw [List.map_congr_left fun e he => by
    have : leaves dir p e = leaves dir q e := by unfold leaves; rw [(h e he).1, (h e he).2]
    rw [this]]
theorem cutp_filter {dir : Bool} {el : Edges} {p : Int → Bool} : cutp dir el p = ((el.filter (leaves dir p)).map fun e => e.2.2).sum := by
  induction el with
  | nil => rfl
  | cons e el ih =>
    rw [cutp_cons, ih, List.filter_cons]
    cases h : leaves dir p e <;> simp
theorem one_sub (dir a b c d : Bool) (w : Int) (hw : 0 ≤ w) : (if (((a && c) && !(b && d)) || (!dir && ((b && d) && !(a && c)))) = true then w else 0) + (if (((a || c) && !(b || d)) || (!dir && ((b || d) && !(a || c)))) = true then w else 0) ≤
    (if ((a && !b) || (!dir && (b && !a))) = true then w else 0) + (if ((c && !d) || (!dir && (d && !c))) = true then w else 0) := by
  cases dir <;> cases a <;> cases b <;> cases c <;> cases d <;> simp <;> omega
theorem one_diff (a b c d : Bool) (w : Int) (hw : 0 ≤ w) : (if (((a && !c) && !(b && !d)) || (!false && ((b && !d) && !(a && !c)))) = true then w else 0) + (if (((c && !a) && !(d && !b)) || (!false && ((d && !b) && !(c && !a)))) = true then w else 0) ≤
    (if ((a && !b) || (!false && (b && !a))) = true then w else 0) + (if ((c && !d) || (!false && (d && !c))) = true then w else 0) := by
  cases a <;> cases b <;> cases c <;> cases d <;> simp <;> omega
section
variable {dir : Bool} {el : Edges} {p q : Int → Bool}
theorem cut_sub (h : ∀ e ∈ el, 0 ≤ e.2.2) : cutp dir el (fun x => p x && q x) + cutp dir el (fun x => p x || q x) ≤ cutp dir el p + cutp dir el q := by
  induction el with
  | nil => simp [cutp_nil]
  | cons e el ih =>
    have h1 := h e List.mem_cons_self
    have h2 := ih fun e he => h e (List.mem_cons_of_mem _ he)
    rw [cutp_cons, cutp_cons, cutp_cons, cutp_cons]
    have h3 := one_sub dir (p e.1) (p e.2.1) (q e.1) (q e.2.1) e.2.2 h1
    unfold leaves
    dsimp only at *
    omega
theorem cut_diff (h : ∀ e ∈ el, 0 ≤ e.2.2) : cutp false el (fun x => p x && !q x) + cutp false el (fun x => q x && !p x) ≤ cutp false el p + cutp false el q := by
  induction el with
  | nil => simp [cutp_nil]
  | cons e el ih =>
    have h1 := h e List.mem_cons_self
    have h2 := ih fun e he => h e (List.mem_cons_of_mem _ he)
    rw [cutp_cons, cutp_cons, cutp_cons, cutp_cons]
    have h3 := one_diff (p e.1) (p e.2.1) (q e.1) (q e.2.1) e.2.2 h1
    unfold leaves
    dsimp only at *
    omega
theorem cut_rest : cutp false el (fun x => !p x) = cutp false el p := by
  unfold cutp
  rw [List.map_congr_left fun e _ => by
    have : leaves false (fun x => !p x) e = leaves false p e := by
      unfold leaves
      dsimp only
      cases p e.1 <;> cases p e.2.1 <;> rfl
    rw [this]]
end
/-! ### what capacities_of makes -/
def step1 (dir : Bool) (l : PM) (e : Int × Int × Int) : PM := if dir = true then pk l (e.1, e.2.1) e.2.2 else pk (pk l (e.1, e.2.1) e.2.2) (e.2.1, e.1) e.2.2
def capsOf (dir : Bool) (el : Edges) : PM := el.foldl (step1 dir) []
/-- edges between the nodes V -/
structure EdgesOk (V : List Int) (dir : Bool) (el : Edges) : Prop where
  nd : (el.map fun e => (e.1, e.2.1)).Nodup
  inV : ∀ e ∈ el, e.1 ∈ V ∧ e.2.1 ∈ V
  ne : ∀ e ∈ el, e.1 ≠ e.2.1
  up : dir = false → ∀ e ∈ el, e.1 < e.2.1
  pos : ∀ e ∈ el, 1 ≤ e.2.2
def both (dir : Bool) (e : Int × Int × Int) : PM := if dir = true then [((e.1, e.2.1), e.2.2)] else [((e.1, e.2.1), e.2.2), ((e.2.1, e.1), e.2.2)]
theorem both_key {dir : Bool} {e : Int × Int × Int} {k : Int × Int} (h : k ∈ (both dir e).map (·.1)) : k = (e.1, e.2.1) ∨ (dir = false ∧ k = (e.2.1, e.1)) := by
  unfold both at h
  cases dir <;> simp at h
  · rcases h with h | h
    · exact .inl h
    · exact .inr ⟨rfl, h⟩
  · exact .inl h
theorem flat_nd {V : List Int} {dir : Bool} : ∀ {el : Edges}, EdgesOk V dir el → ((el.flatMap (both dir)).map (·.1)).Nodup
  | [], _ => List.nodup_nil
  | e :: el, h => by
    have hn := List.nodup_cons.mp (show ((e.1, e.2.1) :: el.map fun e => (e.1, e.2.1)).Nodup from h.nd)
    have ht : EdgesOk V dir el := ⟨hn.2, fun e he => h.inV e (List.mem_cons_of_mem _ he), fun e he => h.ne e (List.mem_cons_of_mem _ he), fun d e he => h.up d e (List.mem_cons_of_mem _ he), fun e he => h.pos e (List.mem_cons_of_mem _ he)⟩
    rw [List.flatMap_cons, List.map_append, List.nodup_append]
    refine ⟨?_, flat_nd ht, fun k hk j hj ekj => ?_⟩
    · unfold both
      cases dir
      · have := h.ne e List.mem_cons_self
        simp only [Bool.false_eq_true, if_false, List.map_cons, List.map_nil, List.nodup_cons, List.mem_singleton, List.not_mem_nil, not_false_eq_true, List.nodup_nil, and_true]
        exact fun z => this (congrArg Prod.fst z)
      · simp
    · subst ekj
      obtain ⟨y, hy, ey⟩ := List.mem_map.mp hj
      obtain ⟨e2, he2, hy2⟩ := List.mem_flatMap.mp hy
      have k2 := both_key (List.mem_map.mpr ⟨y, hy2, ey⟩)
      have k1 := both_key hk
      have ne2 : (e.1, e.2.1) ≠ (e2.1, e2.2.1) := fun z => hn.1 (by rw [z]; exact List.mem_map.mpr ⟨e2, he2, rfl⟩)
      have up : dir = false → e.1 < e.2.1 ∧ e2.1 < e2.2.1 := fun d => ⟨h.up d e List.mem_cons_self, h.up d e2 (List.mem_cons_of_mem _ he2)⟩
      rcases k1 with k1 | ⟨d1, k1⟩ <;> rcases k2 with k2 | ⟨d2, k2⟩
      · exact ne2 (k1.symm.trans k2)
      · have z := k1.symm.trans k2
        have a1 := congrArg Prod.fst z
        have a2 := congrArg Prod.snd z
        have := up d2
        simp only at a1 a2
        omega
      · have z := k1.symm.trans k2
        have a1 := congrArg Prod.fst z
        have a2 := congrArg Prod.snd z
        have := up d1
        simp only at a1 a2
        omega
      · have z := k1.symm.trans k2
        have a1 := congrArg Prod.fst z
        have a2 := congrArg Prod.snd z
        simp only at a1 a2
        exact ne2 (Prod.ext a2 a1)
theorem caps_flat {dir : Bool} : ∀ {el : Edges} {l : PM}, ((l ++ el.flatMap (both dir)).map (·.1)).Nodup → el.foldl (step1 dir) l = l ++ el.flatMap (both dir)
  | [], l, _ => by simp
  | e :: el, l, nd => by
    have hs : step1 dir l e = l ++ both dir e := by
      have h1 : step1 dir l e = pkAll l (both dir e) := by
        unfold step1 both
        cases dir <;> rfl
      rw [h1, pkAll_nd]
      rw [List.flatMap_cons, ← List.append_assoc, List.map_append] at nd
      exact (List.nodup_append.mp nd).1
    show el.foldl (step1 dir) (step1 dir l e) = _
    rw [hs, caps_flat (by rw [List.append_assoc, ← List.flatMap_cons]; exact nd), List.append_assoc, ← List.flatMap_cons]
theorem capsOf_eq {V : List Int} {dir : Bool} {el : Edges} (h : EdgesOk V dir el) : capsOf dir el = el.flatMap (both dir) := by
  have := caps_flat (dir := dir) (el := el) (l := []) (by simpa using flat_nd h)
  rw [List.nil_append] at this
  exact this
theorem caps_cut {V : List Int} {dir : Bool} {el : Edges} (h : EdgesOk V dir el) (p : Int → Bool) : cutE (capsOf dir el) p = cutp dir el p := by
  rw [capsOf_eq h]
  have up := h.up
  clear h
  induction el with
  | nil => rfl
  | cons e el ih =>
    rw [List.flatMap_cons, cutp_cons, ← ih fun d e he => up d e (List.mem_cons_of_mem _ he)]
    unfold cutE
    rw [List.map_append, List.sum_append]
    congr 1
    unfold both leaves
    cases dir
    · cases h1 : p e.1 <;> cases h2 : p e.2.1 <;> simp [h1, h2]
    · cases h1 : p e.1 <;> cases h2 : p e.2.1 <;> simp [h1, h2]
theorem caps_nd {V : List Int} {dir : Bool} {el : Edges} (h : EdgesOk V dir el) : ((capsOf dir el).map (·.1)).Nodup := by rw [capsOf_eq h]; exact flat_nd h
theorem caps_mem {V : List Int} {dir : Bool} {el : Edges} (h : EdgesOk V dir el) : ∀ x ∈ capsOf dir el, x.1.1 ∈ V ∧ x.1.2 ∈ V ∧ x.1.1 ≠ x.1.2 ∧ 1 ≤ x.2 := by
  rw [capsOf_eq h]
  intro x hx
  obtain ⟨e, he, hxe⟩ := List.mem_flatMap.mp hx
  have h1 := h.inV e he
  have h2 := h.ne e he
  have h3 := h.pos e he
  unfold both at hxe
  cases dir
  · simp at hxe
    rcases hxe with rfl | rfl
    · exact ⟨h1.1, h1.2, h2, h3⟩
    · exact ⟨h1.2, h1.1, Ne.symm h2, h3⟩
  · simp at hxe
    subst hxe
    exact ⟨h1.1, h1.2, h2, h3⟩
theorem caps_len {V : List Int} {dir : Bool} {el : Edges} (h : EdgesOk V dir el) : (capsOf dir el).length ≤ 2 * el.length := by
  rw [capsOf_eq h]
  clear h
  induction el with
  | nil => exact Nat.zero_le _
  | cons e el ih =>
    rw [List.flatMap_cons, List.length_append, List.length_cons]
    have : (both dir e).length ≤ 2 := by unfold both; cases dir <;> simp
    omega
end Cut
set_option Elab.async false
set_option linter.all false
set_option maxRecDepth 100000
set_option maxHeartbeats 4000000
/-! what is reached in the rest of a flow, from the one end and from the other; ways; the flow grows. Own work. -/
namespace Cut
open Rz

abbrev Near := List (Int × List Int)
def nearOf (n : Near) (x : Int) : List Int := (lk n x).getD []
def room (c f : PM) (x y : Int) : Int := gt c x y - gt f x y
/-- n tells each node's neighbours in c -/
def NearOk (n : Near) (c : PM) : Prop := ∀ x y, y ∈ nearOf n x ↔ (x, y) ∈ c.map (·.1) ∨ (y, x) ∈ c.map (·.1)
theorem gt_none {l : PM} {x y : Int} (h : (x, y) ∉ l.map (·.1)) : gt l x y = 0 := by unfold gt; rw [lk_none.mpr h]; rfl
theorem near_room {V : List Int} {n : Near} {c f : PM} (hn : NearOk n c) (hf : FlowOk V c f) {x y : Int} (h : 0 < room c f x y) : y ∈ nearOf n x := by
  rw [hn]
  refine Classical.byContradiction fun no => ?_
  have h1 : (x, y) ∉ c.map (·.1) := fun z => no (.inl z)
  have h2 : (y, x) ∉ c.map (·.1) := fun z => no (.inr z)
  have h3 := hf.le x y
  have h4 := hf.le y x
  have h5 := hf.anti x y
  unfold room at h
  rw [gt_none h1] at h h3
  rw [gt_none h2] at h4
  omega
abbrev Bef := List (Int × Option Int)
abbrev ks {α : Type} (b : List (Int × α)) : List Int := b.map (·.1)
structure BInv (V src : List Int) (c f : PM) (b : Bef) : Prop where
  nd : (ks b).Nodup
  inV : ∀ x ∈ ks b, x ∈ V
  roots : ∀ x ∈ src, (x, none) ∈ b
  root : ∀ x, (x, none) ∈ b → x ∈ src
  par : ∀ (i : Nat) (y x : Int), b[i]? = some (y, some x) → (∃ j : Nat, j < i ∧ (ks b)[j]? = some x) ∧ 0 < room c f x y
theorem ks_none (src : List Int) : ks (src.map fun x => (x, (none : Option Int))) = src := by
  unfold ks
  rw [List.map_map]
  exact List.map_id src
theorem binv_start {V src : List Int} {c f : PM} (nd : src.Nodup) (hv : ∀ x ∈ src, x ∈ V) : BInv V src c f (src.map fun x => (x, none)) := by
  refine ⟨by rw [ks_none]; exact nd, by rw [ks_none]; exact hv, fun x hx => List.mem_map.mpr ⟨x, hx, rfl⟩, fun x hx => ?_, fun i y x h => ?_⟩
  · obtain ⟨z, hz, e⟩ := List.mem_map.mp hx
    cases e; exact hz
  · rw [List.getElem?_map] at h
    cases hs : src[i]? with
    | none => rw [hs] at h; cases h
    | some z => rw [hs] at h; cases h
theorem binv_snoc {V src : List Int} {c f : PM} {b : Bef} {x y : Int} (B : BInv V src c f b) (hx : x ∈ ks b) (hy : y ∉ ks b) (hv : y ∈ V) (hr : 0 < room c f x y) : BInv V src c f (b ++ [(y, some x)]) := by
  have e : ks (b ++ [(y, some x)]) = ks b ++ [y] := List.map_append
  refine ⟨?_, fun z hz => ?_, fun z hz => List.mem_append_left _ (B.roots z hz), fun z hz => ?_, fun i z w h => ?_⟩
  · rw [e]
    exact List.nodup_append.mpr ⟨B.nd, by simp, fun p hp q hq epq => hy (by rw [← List.mem_singleton.mp hq, ← epq]; exact hp)⟩
  · rw [e] at hz
    rcases List.mem_append.mp hz with hz | hz
    · exact B.inV z hz
    · rw [List.mem_singleton.mp hz]; exact hv
  · rcases List.mem_append.mp hz with hz | hz
    · exact B.root z hz
    · cases List.mem_singleton.mp hz
  · rw [e]
    by_cases hi : i < b.length
    · rw [List.getElem?_append_left hi] at h
      obtain ⟨⟨j, h1, h2⟩, h3⟩ := B.par i z w h
      have hj : j < (ks b).length := by
        have : (ks b).length = b.length := List.length_map _
        omega
      exact ⟨⟨j, h1, by rw [List.getElem?_append_left hj]; exact h2⟩, h3⟩
    · rw [List.getElem?_append_right (by omega)] at h
      have hi2 : i - b.length = 0 := by
        rcases Nat.eq_zero_or_pos (i - b.length) with q | q
        · exact q
        · rw [List.getElem?_eq_none (by simp; omega)] at h; cases h
      rw [hi2] at h
      cases h
      obtain ⟨j, hj, ej⟩ := List.mem_iff_getElem.mp hx
      have hl : (ks b).length = b.length := List.length_map _
      refine ⟨⟨j, by omega, ?_⟩, hr⟩
      rw [List.getElem?_append_left hj, List.getElem?_eq_getElem hj, ej]
/-- b: what is reached from src, each with the one ahead of it -/
structure Reach (V src : List Int) (n : Near) (c f : PM) (b : Bef) : Prop extends BInv V src c f b where
  closed : ∀ x ∈ ks b, ∀ y ∈ nearOf n x, 0 < room c f x y → y ∈ ks b
theorem at_inj {l : List Int} (nd : l.Nodup) {i j : Nat} {x : Int} (h1 : l[i]? = some x) (h2 : l[j]? = some x) : i = j := by
  obtain ⟨a1, a2⟩ := List.getElem?_eq_some_iff.mp h1
  obtain ⟨b1, b2⟩ := List.getElem?_eq_some_iff.mp h2
  exact (List.getElem_inj nd).mp (a2.trans b2.symm)
theorem reach_least {V src : List Int} {c f : PM} {b : Bef} (B : BInv V src c f b) (p : Int → Bool) (hs : ∀ x ∈ V, x ∈ src → p x = true) (cl : Closed V c f p) : ∀ (i : Nat) (x : Int), (ks b)[i]? = some x → p x = true := by
  intro i
  induction i using Nat.strongRecOn with
  | _ i ih =>
    intro x hx
    have hm : x ∈ ks b := List.mem_of_getElem? hx
    have hb : ∃ o, b[i]? = some (x, o) := by
      rw [List.getElem?_map] at hx
      cases hbi : b[i]? with
      | none => rw [hbi] at hx; cases hx
      | some e =>
        rw [hbi] at hx
        have : e.1 = x := Option.some.inj hx
        exact ⟨e.2, by rw [← this]⟩
    obtain ⟨o, hb⟩ := hb
    cases o with
    | none => exact hs x (B.inV x hm) (B.root x (List.mem_of_getElem? hb))
    | some u =>
      obtain ⟨⟨j, hj, hu⟩, hr⟩ := B.par i x u hb
      exact cl u (B.inV u (List.mem_of_getElem? hu)) x (B.inV x hm) (ih j hj u hu) hr
theorem Reach.cl {V src : List Int} {n : Near} {c f : PM} {b : Bef} (R : Reach V src n c f b) (hn : NearOk n c) (hf : FlowOk V c f) : Closed V c f fun x => decide (x ∈ ks b) := fun x _ y _ hx hr =>
  decide_eq_true (R.closed x (of_decide_eq_true hx) y (near_room hn hf hr) hr)
theorem Reach.low {V src : List Int} {n : Near} {c f : PM} {b : Bef} (R : Reach V src n c f b) (p : Int → Bool) (hs : ∀ x ∈ V, x ∈ src → p x = true) (cl : Closed V c f p) : ∀ x ∈ V, decide (x ∈ ks b) = true → p x = true := fun x _ hx => by
  obtain ⟨i, hi, e⟩ := List.mem_iff_getElem.mp (of_decide_eq_true hx)
  exact reach_least R.toBInv p hs cl i x (by rw [List.getElem?_eq_getElem hi, e])

/-! ### from the other end -/
structure TInv (V snk : List Int) (c f : PM) (l : List Int) : Prop where
  nd : l.Nodup
  inV : ∀ x ∈ l, x ∈ V
  base : ∀ x ∈ snk, x ∈ l
  par : ∀ (i : Nat) (y : Int), l[i]? = some y → y ∈ snk ∨ ∃ (j : Nat) (x : Int), j < i ∧ l[j]? = some x ∧ 0 < room c f y x
theorem tinv_start {V snk : List Int} {c f : PM} (nd : snk.Nodup) (hv : ∀ x ∈ snk, x ∈ V) : TInv V snk c f snk := ⟨nd, hv, fun _ h => h, fun _ _ h => .inl (List.mem_of_getElem? h)⟩
theorem tinv_snoc {V snk : List Int} {c f : PM} {l : List Int} {x y : Int} (B : TInv V snk c f l) (hx : x ∈ l) (hy : y ∉ l) (hv : y ∈ V) (hr : 0 < room c f y x) : TInv V snk c f (l ++ [y]) := by
  refine ⟨?_, fun z hz => ?_, fun z hz => List.mem_append_left _ (B.base z hz), fun i z h => ?_⟩
  · exact List.nodup_append.mpr ⟨B.nd, by simp, fun p hp q hq epq => hy (by rw [← List.mem_singleton.mp hq, ← epq]; exact hp)⟩
  · rcases List.mem_append.mp hz with hz | hz
    · exact B.inV z hz
    · rw [List.mem_singleton.mp hz]; exact hv
  · by_cases hi : i < l.length
    · rw [List.getElem?_append_left hi] at h
      rcases B.par i z h with q | ⟨j, w, h1, h2, h3⟩
      · exact .inl q
      · exact .inr ⟨j, w, h1, by rw [List.getElem?_append_left (by omega)]; exact h2, h3⟩
    · rw [List.getElem?_append_right (by omega)] at h
      have hi2 : i - l.length = 0 := by
        rcases Nat.eq_zero_or_pos (i - l.length) with q | q
        · exact q
        · rw [List.getElem?_eq_none (by simp; omega)] at h; cases h
      rw [hi2] at h
      cases h
      obtain ⟨j, hj, ej⟩ := List.mem_iff_getElem.mp hx
      refine .inr ⟨j, x, by omega, ?_, hr⟩
      rw [List.getElem?_append_left hj, List.getElem?_eq_getElem hj, ej]
structure TReach (V snk : List Int) (n : Near) (c f : PM) (l : List Int) : Prop extends TInv V snk c f l where
  closed : ∀ x ∈ l, ∀ y ∈ nearOf n x, 0 < room c f y x → y ∈ l
theorem TReach.cl {V snk : List Int} {n : Near} {c f : PM} {l : List Int} (R : TReach V snk n c f l) (hn : NearOk n c) (hf : FlowOk V c f) : Closed V c f fun x => !decide (x ∈ l) := fun x _ y _ hx hr => by
  show (!decide (y ∈ l)) = true
  have hx : (!decide (x ∈ l)) = true := hx
  have hxl : x ∉ l := by simpa using hx
  have hyl : y ∉ l := fun hy => hxl (R.closed y hy x ((hn y x).mpr ((hn x y).mp (near_room hn hf hr)).symm) hr)
  simpa using hyl
theorem TReach.low {V snk : List Int} {n : Near} {c f : PM} {l : List Int} (R : TReach V snk n c f l) (p : Int → Bool) (hs : ∀ x ∈ V, x ∈ snk → p x = false) (cl : Closed V c f p) : ∀ x ∈ V, decide (x ∈ l) = true → p x = false := by
  have key : ∀ (i : Nat) (x : Int), l[i]? = some x → p x = false := by
    intro i
    induction i using Nat.strongRecOn with
    | _ i ih =>
      intro x hx
      have hm : x ∈ l := List.mem_of_getElem? hx
      rcases R.par i x hx with q | ⟨j, w, h1, h2, h3⟩
      · exact hs x (R.inV x hm) q
      · have h4 := ih j h1 w h2
        cases hp : p x with
        | false => rfl
        | true =>
          rw [cl x (R.inV x hm) w (R.inV w (List.mem_of_getElem? h2)) hp h3] at h4
          cases h4
  intro x _ hx
  obtain ⟨i, hi, e⟩ := List.mem_iff_getElem.mp (of_decide_eq_true hx)
  exact key i x (by rw [List.getElem?_eq_getElem hi, e])

/-! ### ways -/
structure Way (b : Bef) (goal : Int) (st : List (Int × Int)) : Prop where
  chain : ∃ r, (r, none) ∈ b ∧ Chain r st goal
  steps : ∀ s ∈ st, (s.2, some s.1) ∈ b
theorem way_nd {V src : List Int} {c f : PM} {b : Bef} (B : BInv V src c f b) {goal : Int} : ∀ {st : List (Int × Int)} {x : Int} {j : Nat}, Chain x st goal → (∀ s ∈ st, (s.2, some s.1) ∈ b) → (ks b)[j]? = some x → st.Nodup ∧ ∀ s ∈ st, ∃ i : Nat, j < i ∧ (ks b)[i]? = some s.2
  | [], x, j, _, _, _ => ⟨List.nodup_nil, fun _ h => nomatch h⟩
  | s :: st, x, j, hc, hs, hj => by
    obtain ⟨i, hi, e⟩ := List.mem_iff_getElem.mp (hs s List.mem_cons_self)
    have hb : b[i]? = some (s.2, some s.1) := by rw [List.getElem?_eq_getElem hi, e]
    obtain ⟨⟨j2, h1, h2⟩, _⟩ := B.par i s.2 s.1 hb
    have hk : (ks b)[i]? = some s.2 := by
      show (b.map (·.1))[i]? = _
      rw [List.getElem?_map, hb]; rfl
    have ej : j2 = j := at_inj B.nd h2 (by rw [show s.1 = x from hc.1]; exact hj)
    subst ej
    obtain ⟨g1, g2⟩ := way_nd B (st := st) (x := s.2) (j := i) hc.2 (fun r hr => hs r (List.mem_cons_of_mem _ hr)) hk
    refine ⟨List.nodup_cons.mpr ⟨fun hm => ?_, g1⟩, fun r hr => ?_⟩
    · obtain ⟨i2, h3, h4⟩ := g2 s hm
      have := at_inj B.nd h4 hk
      omega
    · rcases List.mem_cons.mp hr with rfl | hr
      · exact ⟨i, h1, hk⟩
      · obtain ⟨i2, h3, h4⟩ := g2 r hr
        exact ⟨i2, by omega, h4⟩
/-- the flow behind a way that is filled by a -/
theorem grow {V src snk : List Int} {c f : PM} {b : Bef} {goal a : Int} {st : List (Int × Int)} (ndV : V.Nodup) (dj : ∀ x ∈ src, x ∉ snk) (F : Flow V src snk c f) (B : BInv V src c f b) (W : Way b goal st) (hg : goal ∈ snk) (hgv : goal ∈ V) (ha : 0 < a) (hst : ∀ s ∈ st, a ≤ room c f s.1 s.2) :
    Flow V src snk c (pushed f st a) ∧ val V src (pushed f st a) = val V src f + a := by
  obtain ⟨r, hr, hc⟩ := W.chain
  have rm : r ∈ ks b := List.mem_map.mpr ⟨_, hr, rfl⟩
  have rs : r ∈ src := B.root r hr
  have rV : r ∈ V := B.inV r rm
  have ng : ∀ x, x ∈ src → x ≠ goal := fun x hx e => dj x hx (by rw [e]; exact hg)
  obtain ⟨j, hj, ej⟩ := List.mem_iff_getElem.mp rm
  obtain ⟨nd, _⟩ := way_nd B hc W.steps (j := j) (by rw [List.getElem?_eq_getElem hj, ej])
  have inV : ∀ s ∈ st, s.1 ∈ V ∧ s.2 ∈ V ∧ s.1 ≠ s.2 ∧ a ≤ gt c s.1 s.2 - gt f s.1 s.2 := fun s hs => by
    obtain ⟨i, hi, e⟩ := List.mem_iff_getElem.mp (W.steps s hs)
    have hb : b[i]? = some (s.2, some s.1) := by rw [List.getElem?_eq_getElem hi, e]
    obtain ⟨⟨j2, h1, h2⟩, _⟩ := B.par i s.2 s.1 hb
    have hk : (ks b)[i]? = some s.2 := by
      show (b.map (·.1))[i]? = _
      rw [List.getElem?_map, hb]; rfl
    refine ⟨B.inV _ (List.mem_of_getElem? h2), B.inV _ (List.mem_of_getElem? hk), fun e => ?_, hst s hs⟩
    rw [e] at h2
    have := at_inj B.nd h2 hk
    omega
  obtain ⟨g1, g2⟩ := pushed_ok ndV (Int.le_of_lt ha) F.ok hc nd inV
  refine ⟨⟨g1, fun x hx h1 h2 => ?_⟩, ?_⟩
  · rw [g2, F.cons x hx h1 h2, if_neg (fun e => h1 (by rw [e]; exact rs)), if_neg (fun e => h2 (by rw [e]; exact hg))]; rfl
  · unfold val outOf
    rw [sm_congr (g := fun x => (if decide (x ∈ src) = true then ex V f x else 0) + (if x = r then a else 0)) fun x _ => by
      by_cases hx : x ∈ src
      · simp only [hx, decide_true, if_true]
        rw [g2, if_neg (ng x hx)]; omega
      · have : ¬ x = r := fun e => hx (by rw [e]; exact rs)
        simp [hx, this]]
    rw [sm_add, sm_one ndV rV]
/-- nothing flows at first -/
theorem flow0 {V src snk : List Int} {c : PM} (h : ∀ e ∈ c, 1 ≤ e.2) : Flow V src snk c [] := by
  refine ⟨⟨fun u v => by show (0 : Int) = -0; rfl, fun u v => ?_⟩, fun x _ _ _ => ?_⟩
  · show 0 ≤ (lk c (u, v)).getD 0
    cases hl : lk c (u, v) with
    | none => exact Int.le_refl _
    | some w =>
      have := h _ (lk_mem hl)
      show 0 ≤ w
      have : 1 ≤ w := this
      omega
  · unfold ex
    exact (sm_congr (f := fun y => gt [] x y) (g := fun _ => 0) fun y _ => rfl).trans sm_zero
/-- .. pairs of nodes alone -/
def Keys (V : List Int) (f : PM) : Prop := (f.map (·.1)).Nodup ∧ ∀ k ∈ f.map (·.1), k.1 ∈ V ∧ k.2 ∈ V
theorem keys_pk {V : List Int} {f : PM} {u v a : Int} (h : Keys V f) (hu : u ∈ V) (hv : v ∈ V) : Keys V (pk f (u, v) a) := by
  refine ⟨pk_nd h.1, fun k hk => ?_⟩
  rw [pk_keys] at hk
  split at hk
  · exact h.2 k hk
  · rcases List.mem_append.mp hk with hk | hk
    · exact h.2 k hk
    · rw [List.mem_singleton.mp hk]; exact ⟨hu, hv⟩
theorem keys_put2 {V : List Int} {f : PM} {u v a : Int} (h : Keys V f) (hu : u ∈ V) (hv : v ∈ V) : Keys V (put2 f u v a) := keys_pk (keys_pk h hu hv) hv hu
theorem keys_pushed {V : List Int} {a : Int} : ∀ {st : List (Int × Int)} {f : PM}, Keys V f → (∀ s ∈ st, s.1 ∈ V ∧ s.2 ∈ V) → Keys V (pushed f st a)
  | [], _, h, _ => h
  | s :: st, f, h, hs => keys_pushed (st := st) (f := put2 f s.1 s.2 a) (keys_put2 h (hs s List.mem_cons_self).1 (hs s List.mem_cons_self).2) fun r hr => hs r (List.mem_cons_of_mem _ hr)
theorem keys_len {V : List Int} {f : PM} (h : Keys V f) : f.length ≤ V.length * V.length := by
  have h1 : (f.map (·.1)).length ≤ (V.flatMap fun x => V.map fun y => (x, y)).length := nodup_len h.1 fun k hk => by
    obtain ⟨a, b⟩ := h.2 k hk
    exact List.mem_flatMap.mpr ⟨k.1, a, List.mem_map.mpr ⟨k.2, b, rfl⟩⟩
  have h2 : ∀ W : List Int, (W.flatMap fun x => V.map fun y => (x, y)).length = W.length * V.length := fun W => by
    induction W with
    | nil => simp
    | cons x W ih => rw [List.flatMap_cons, List.length_append, ih, List.length_map, List.length_cons, Nat.add_mul, Nat.one_mul, Nat.add_comm]
  rw [h2, List.length_map] at h1
  exact h1
end Cut
set_option Elab.async false
set_option linter.all false
set_option maxRecDepth 100000
set_option maxHeartbeats 2000000
/-! what flows out at each node, told by the positive amounts; the least cut's value. Own work. -/
namespace Cut
open PySem PySem.Spec L2 Rz
theorem gt_cons {e : (Int × Int) × Int} {l : PM} {x y : Int} (h : e.1 ∉ l.map (·.1)) : gt (e :: l) x y = (if e.1 = (x, y) then e.2 else 0) + gt l x y := by
  unfold gt
  rw [lk_cons]
  by_cases c : e.1 = (x, y)
  · rw [if_pos c, if_pos c]
    have : lk l (x, y) = none := by
      cases z : lk l (x, y) with
      | none => rfl
      | some a =>
        have := lk_mem z
        exact absurd (List.mem_map.mpr ⟨_, this, rfl⟩) (by rw [c] at h; exact h)
    rw [this]; simp
  · rw [if_neg c, if_neg c]; simp
theorem row_sum {V : List Int} (nd : V.Nodup) {x : Int} : ∀ {l : PM}, Keys V l → sm V (fun y => gt l x y) = (l.map fun e => if e.1.1 = x then e.2 else 0).sum
  | [], _ => by
    show sm V (fun y => gt [] x y) = 0
    rw [← sm_zero (V := V)]; rfl
  | e :: l, h => by
    obtain ⟨h1, h2⟩ := h
    rw [List.map_cons] at h1
    have hn := List.nodup_cons.mp h1
    have ih := row_sum nd (x := x) (l := l) ⟨hn.2, fun k hk => h2 k (List.mem_cons_of_mem _ hk)⟩
    rw [List.map_cons, List.sum_cons, ← ih, sm_congr (g := fun y => (if e.1 = (x, y) then e.2 else 0) + gt l x y) fun y _ => gt_cons hn.1, sm_add]
    congr 1
    have hk := h2 e.1 List.mem_cons_self
    by_cases c : e.1.1 = x
    · rw [if_pos c, sm_congr (g := fun y => if y = e.1.2 then e.2 else 0) fun y _ => ?_, sm_one nd hk.2]
      by_cases d : y = e.1.2
      · rw [if_pos d, if_pos (by rw [d, ← c])]
      · rw [if_neg d, if_neg (fun q => d (by rw [q]))]
    · rw [if_neg c, sm_congr (g := fun _ => 0) fun y _ => if_neg (fun q => c (by rw [q])), sm_zero]
theorem col_sum {V : List Int} (nd : V.Nodup) {x : Int} : ∀ {l : PM}, Keys V l → sm V (fun y => gt l y x) = (l.map fun e => if e.1.2 = x then e.2 else 0).sum
  | [], _ => by
    show sm V (fun y => gt [] y x) = 0
    rw [← sm_zero (V := V)]; rfl
  | e :: l, h => by
    obtain ⟨h1, h2⟩ := h
    rw [List.map_cons] at h1
    have hn := List.nodup_cons.mp h1
    have ih := col_sum nd (x := x) (l := l) ⟨hn.2, fun k hk => h2 k (List.mem_cons_of_mem _ hk)⟩
    rw [List.map_cons, List.sum_cons, ← ih, sm_congr (g := fun y => (if e.1 = (y, x) then e.2 else 0) + gt l y x) fun y _ => gt_cons hn.1, sm_add]
    congr 1
    have hk := h2 e.1 List.mem_cons_self
    by_cases c : e.1.2 = x
    · rw [if_pos c, sm_congr (g := fun y => if y = e.1.1 then e.2 else 0) fun y _ => ?_, sm_one nd hk.1]
      by_cases d : y = e.1.1
      · rw [if_pos d, if_pos (by rw [d, ← c])]
      · rw [if_neg d, if_neg (fun q => d (by rw [q]))]
    · rw [if_neg c, sm_congr (g := fun _ => 0) fun y _ => if_neg (fun q => c (by rw [q])), sm_zero]
def posM (f : PM) : PM := f.filter fun e => decide (0 < e.2)
def posE (f : PM) : Edges := (posM f).map fun e => (e.1.1, e.1.2, e.2)
theorem pos_keys {V : List Int} {f : PM} (h : Keys V f) : Keys V (posM f) := by
  have hs : (posM f).Sublist f := List.filter_sublist
  exact ⟨h.1.sublist (hs.map _), fun k hk => h.2 k ((hs.map _).subset hk)⟩
theorem gt_pos {V : List Int} {f : PM} (h : Keys V f) {x y : Int} : gt (posM f) x y = if 0 < gt f x y then gt f x y else 0 := by
  unfold gt
  cases z : lk f (x, y) with
  | none =>
    have : lk (posM f) (x, y) = none := by
      cases w : lk (posM f) (x, y) with
      | none => rfl
      | some a =>
        rw [lk_of_mem h.1 (List.mem_filter.mp (lk_mem w)).1] at z; cases z
    rw [this]; simp
  | some a =>
    by_cases c : 0 < a
    · have : lk (posM f) (x, y) = some a := lk_of_mem (pos_keys h).1 (List.mem_filter.mpr ⟨lk_mem z, decide_eq_true c⟩)
      rw [this]
      simp [c]
    · have : lk (posM f) (x, y) = none := by
        cases w : lk (posM f) (x, y) with
        | none => rfl
        | some b =>
          have h1 := List.mem_filter.mp (lk_mem w)
          rw [lk_of_mem h.1 h1.1] at z
          cases z
          exact absurd (of_decide_eq_true h1.2) c
      rw [this]
      simp [c]
/-- what the amounts of l carry out at x, less what they carry in -/
def exTo (l : Edges) (x : Int) : Int := (l.map fun e => (if e.1 = x then e.2.2 else 0) - (if e.2.1 = x then e.2.2 else 0)).sum
theorem sum_perm {l l' : List Int} (h : l.Perm l') : l.sum = l'.sum := by
  induction h with
  | nil => rfl
  | cons x _ ih => rw [List.sum_cons, List.sum_cons, ih]
  | swap x y l => simp only [List.sum_cons]; omega
  | trans _ _ h1 h2 => exact h1.trans h2
theorem exTo_perm {l l' : Edges} (h : l.Perm l') {x : Int} : exTo l x = exTo l' x := by
  unfold exTo
  exact sum_perm (h.map _)
theorem sum_sub' {α : Type} (f g : α → Int) : ∀ l : List α, (l.map fun e => f e - g e).sum = (l.map f).sum - (l.map g).sum
  | [] => by simp
  | a :: l => by
    have ih := sum_sub' f g l
    simp only [List.map_cons, List.sum_cons]
    omega
theorem ex_pos {V : List Int} {f : PM} (nd : V.Nodup) (h : Keys V f) (an : Anti f) {x : Int} : exTo (posE f) x = ex V f x := by
  unfold exTo posE
  rw [List.map_map]
  have e1 : ((posM f).map ((fun e : Int × Int × Int => (if e.1 = x then e.2.2 else 0) - (if e.2.1 = x then e.2.2 else 0)) ∘ fun e => (e.1.1, e.1.2, e.2))) = (posM f).map fun e => (if e.1.1 = x then e.2 else 0) - (if e.1.2 = x then e.2 else 0) := rfl
  rw [e1, sum_sub' (fun e : (Int × Int) × Int => if e.1.1 = x then e.2 else 0) (fun e => if e.1.2 = x then e.2 else 0), ← row_sum nd (pos_keys h), ← col_sum nd (pos_keys h)]
  have e2 : ∀ a b c : Int, a = c + b → a - b = c := fun a b c e => by omega
  refine e2 _ _ _ ?_
  unfold ex
  rw [← sm_add]
  refine sm_congr fun y _ => ?_
  rw [gt_pos h, gt_pos h]
  have := an x y
  split <;> split <;> omega
theorem sum_src {V : List Int} {g : Int → Int} (nd : V.Nodup) : ∀ {src : List Int}, src.Nodup → (∀ s ∈ src, s ∈ V) → (src.map g).sum = sm V fun x => if decide (x ∈ src) = true then g x else 0
  | [], _, _ => by
    show 0 = sm V _
    rw [sm_congr (g := fun _ => 0) fun y _ => by simp, sm_zero]
  | s :: src, hn, hs => by
    have h1 := List.nodup_cons.mp hn
    have ih := sum_src nd (g := g) h1.2 fun z hz => hs z (List.mem_cons_of_mem _ hz)
    rw [List.map_cons, List.sum_cons, ih]
    rw [sm_congr (f := fun x => if decide (x ∈ s :: src) = true then g x else 0) (g := fun x => (if x = s then g s else 0) + if decide (x ∈ src) = true then g x else 0) fun y _ => ?_, sm_add, sm_one nd (hs s List.mem_cons_self)]
    by_cases c : y = s
    · subst c
      simp [h1.1]
    · simp [c]
/-- v is the least value of c over the sides that part src and snk -/
structure IsMin (V src snk : List Int) (c : (Int → Bool) → Int) (v : Int) : Prop where
  at_ : ∃ p, Parts V src snk p ∧ c p = v
  le : ∀ p, Parts V src snk p → v ≤ c p
theorem IsMin.uniq {V src snk : List Int} {c : (Int → Bool) → Int} {v w : Int} (h : IsMin V src snk c v) (k : IsMin V src snk c w) : v = w := by
  obtain ⟨p, h1, h2⟩ := h.at_
  obtain ⟨q, k1, k2⟩ := k.at_
  have a := h.le q k1
  have b := k.le p h1
  omega
theorem IsMin.congr {V src snk : List Int} {c d : (Int → Bool) → Int} {v : Int} (h : IsMin V src snk c v) (e : ∀ p, d p = c p) : IsMin V src snk d v := by
  obtain ⟨p, h1, h2⟩ := h.at_
  exact ⟨⟨p, h1, (e p).trans h2⟩, fun q hq => by rw [e q]; exact h.le q hq⟩
/-! ### least values over some sides, or none -/
def IsO (S : (Int → Bool) → Prop) (c : (Int → Bool) → Int) : Option Int → Prop
  | none => ∀ p, ¬ S p
  | some m => (∃ p, S p ∧ c p = m) ∧ ∀ p, S p → m ≤ c p
section
variable {S S' : (Int → Bool) → Prop} {c d : (Int → Bool) → Int} {a b : Option Int}
theorem IsO.uniq (h : IsO S c a) (k : IsO S c b) : a = b := by
  cases a with
  | none =>
    cases b with
    | none => rfl
    | some n =>
      obtain ⟨⟨p, hp, _⟩, _⟩ := k
      exact absurd hp (h p)
  | some m =>
    obtain ⟨⟨p, h1, h2⟩, h3⟩ := h
    cases b with
    | none => exact absurd h1 (k p)
    | some n =>
      obtain ⟨⟨q, k1, k2⟩, k3⟩ := k
      have x1 := h3 q k1
      have x2 := k3 p h1
      congr 1
      omega
theorem IsO.ex (h : ∀ p, S p → 0 ≤ c p) : ∃ o, IsO S c o := by
  by_cases e : ∃ p, S p
  · obtain ⟨p, hp⟩ := e
    have low : ∀ (n : Nat) (p : Int → Bool), S p → (c p).toNat ≤ n → ∃ o, IsO S c o := fun n => by
      induction n with
      | zero =>
        intro p hp hn
        refine ⟨some (c p), ⟨p, hp, rfl⟩, fun q hq => ?_⟩
        have := h q hq
        have := h p hp
        omega
      | succ n ih =>
        intro p hp hn
        by_cases z : ∃ q, S q ∧ c q < c p
        · obtain ⟨q, hq, hl⟩ := z
          have := h q hq
          exact ih q hq (by omega)
        · exact ⟨some (c p), ⟨p, hp, rfl⟩, fun q hq => Int.not_lt.mp fun hl => z ⟨q, hq, hl⟩⟩
    exact low _ p hp (Nat.le_refl _)
  · exact ⟨none, fun p hp => e ⟨p, hp⟩⟩
theorem IsO.congr (h : IsO S c a) (e : ∀ p, S' p ↔ S p) (f : ∀ p, S p → d p = c p) : IsO S' d a := by
  cases a with
  | none => exact fun p hp => h p ((e p).mp hp)
  | some m =>
    obtain ⟨⟨p, h1, h2⟩, h3⟩ := h
    exact ⟨⟨p, (e p).mpr h1, by rw [f p h1, h2]⟩, fun q hq => by rw [f q ((e q).mp hq)]; exact h3 q ((e q).mp hq)⟩
/-- all values lower by f -/
theorem IsO.shift {f : Int} (h : IsO S c a) (e : ∀ p, S p → d p = c p - f) : IsO S d (a.map (· - f)) := by
  cases a with
  | none => exact h
  | some m =>
    obtain ⟨⟨p, h1, h2⟩, h3⟩ := h
    exact ⟨⟨p, h1, by rw [e p h1, h2]⟩, fun q hq => by
      rw [e q hq]
      have := h3 q hq
      show m - f ≤ c q - f
      omega⟩
def lo2 : Option Int → Option Int → Option Int
  | none, b => b
  | some a, none => some a
  | some a, some b => some (if b < a then b else a)
theorem IsO.or (h : IsO S c a) (k : IsO S' c b) : IsO (fun p => S p ∨ S' p) c (lo2 a b) := by
  cases a with
  | none => exact k.congr (fun p => ⟨fun z => z.elim (fun y => absurd y (h p)) id, .inr⟩) fun _ _ => rfl
  | some m =>
    cases b with
    | none => exact h.congr (fun p => ⟨fun z => z.elim id fun y => absurd y (k p), .inl⟩) fun _ _ => rfl
    | some n =>
      obtain ⟨⟨p, h1, h2⟩, h3⟩ := h
      obtain ⟨⟨q, k1, k2⟩, k3⟩ := k
      show (∃ r, _ ∧ _ = (if n < m then n else m)) ∧ ∀ r, _ → (if n < m then n else m) ≤ _
      refine ⟨?_, fun r hr => ?_⟩
      · split
        · exact ⟨q, .inr k1, k2⟩
        · exact ⟨p, .inl h1, h2⟩
      · rcases hr with hr | hr
        · have := h3 r hr
          split <;> omega
        · have := k3 r hr
          split <;> omega
noncomputable def oMin (S : (Int → Bool) → Prop) (c : (Int → Bool) → Int) : Option Int := Classical.epsilon (IsO S c)
theorem oMin_ok (h : ∀ p, S p → 0 ≤ c p) : IsO S c (oMin S c) := Classical.epsilon_spec (p := IsO S c) (IsO.ex h)
theorem oMin_eq (h : IsO S c a) : oMin S c = a := (Classical.epsilon_spec (p := IsO S c) ⟨a, h⟩).uniq h
theorem IsO.of_min {V src snk : List Int} {v : Int} (h : IsMin V src snk c v) : IsO (Parts V src snk) c (some v) := ⟨h.at_, h.le⟩
theorem IsO.min {V src snk : List Int} {v : Int} (h : IsO (Parts V src snk) c (some v)) : IsMin V src snk c v := ⟨h.1, h.2⟩
def leastO (l : List (Option Int)) : Option Int := l.foldr lo2 none
theorem leastO_none : ∀ {l : List (Option Int)}, l.filterMap id = [] → leastO l = none
  | [], _ => rfl
  | none :: l, h => by
    rw [List.filterMap_cons_none rfl] at h
    show lo2 none (leastO l) = none
    rw [leastO_none h]; rfl
  | some a :: l, h => by
    rw [List.filterMap_cons_some (f := id) (b := a) rfl] at h; cases h
theorem leastO_some : ∀ {l : List (Option Int)} {m : Int}, m ∈ l.filterMap id → (∀ k ∈ l.filterMap id, m ≤ k) → leastO l = some m
  | [], _, h, _ => by simp at h
  | none :: l, m, h, k => by
    rw [List.filterMap_cons_none rfl] at h k
    show lo2 none (leastO l) = _
    rw [leastO_some h k]; rfl
  | some a :: l, m, h, k => by
    rw [List.filterMap_cons_some (f := id) (b := a) rfl] at h k
    show lo2 (some a) (leastO l) = _
    have ha := k a List.mem_cons_self
    by_cases e : l.filterMap id = []
    · rw [leastO_none e]
      rw [e] at h
      rw [List.mem_singleton.mp h]; rfl
    · -- the least of the rest
      have ex : ∀ (r : List Int), r ≠ [] → ∃ n ∈ r, ∀ k ∈ r, n ≤ k := fun r => by
        induction r with
        | nil => intro h; exact absurd rfl h
        | cons x r ih =>
          intro _
          by_cases er : r = []
          · exact ⟨x, List.mem_cons_self, fun k hk => by rw [er] at hk; rw [List.mem_singleton.mp hk]; exact Int.le_refl _⟩
          · obtain ⟨n, h1, h2⟩ := ih er
            by_cases c : x ≤ n
            · exact ⟨x, List.mem_cons_self, fun k hk => (List.mem_cons.mp hk).elim (fun e => by rw [e]; exact Int.le_refl _) fun z => Int.le_trans c (h2 k z)⟩
            · exact ⟨n, List.mem_cons_of_mem _ h1, fun k hk => (List.mem_cons.mp hk).elim (fun e => by rw [e]; omega) (h2 k)⟩
      obtain ⟨n, h1, h2⟩ := ex _ e
      rw [leastO_some h1 h2]
      show some (if n < a then n else a) = some m
      have hn := k n (List.mem_cons_of_mem _ h1)
      congr 1
      rcases List.mem_cons.mp h with h | h
      · split <;> omega
      · have := h2 m h
        split <;> omega
end
theorem cutp_nn {dir : Bool} {el : Edges} {p : Int → Bool} (h : ∀ e ∈ el, 0 ≤ e.2.2) : 0 ≤ cutp dir el p := by
  induction el with
  | nil => exact Int.le_refl _
  | cons e el ih =>
    rw [cutp_cons]
    have h1 := h e List.mem_cons_self
    have h2 := ih fun e he => h e (List.mem_cons_of_mem _ he)
    split <;> omega
end Cut
set_option Elab.async false
set_option linter.all false
set_option maxRecDepth 100000
set_option maxHeartbeats 4000000
/-! parts of a list by the bits of a number. Own work. -/
namespace K96
open PySem
/-- the k-th bit of n -/
def bitB (n : Int) (k : Nat) : Bool := decide (Builtin.bitAnd (n / 2 ^ k) 1 = 1)
def partOf (ts : List Int) (n : Int) : List Int := (ts.zipIdx.filter fun p => bitB n p.2).map (·.1)
def sel : List Int → Nat → List Int
  | [], _ => []
  | t :: ts, n => if n % 2 = 1 then t :: sel ts (n / 2) else sel ts (n / 2)
theorem bit_nat (m k : Nat) : bitB (m : Int) k = decide (m / 2 ^ k % 2 = 1) := by
  unfold bitB
  have e : ((m : Int) / 2 ^ k) = ((m / 2 ^ k : Nat) : Int) := by
    rw [Int.natCast_ediv, Int.natCast_pow]; rfl
  rw [e, PyProof.Rows.bitAnd_pp (Int.natCast_nonneg _) (by decide)]
  have e2 : (((m / 2 ^ k : Nat) : Int).toNat &&& (1 : Int).toNat) = m / 2 ^ k % 2 := by
    rw [Int.toNat_natCast]
    exact Nat.and_one_is_mod _
  rw [e2]
  by_cases h : m / 2 ^ k % 2 = 1
  · rw [h]; rfl
  · rw [decide_eq_false h, decide_eq_false (by omega)]
theorem sel_at : ∀ (ts : List Int) (m k : Nat), ((ts.zipIdx k).filter fun p => bitB (m : Int) p.2).map (·.1) = sel ts (m / 2 ^ k)
  | [], m, k => rfl
  | t :: ts, m, k => by
    have ih := sel_at ts m (k + 1)
    have e : m / 2 ^ (k + 1) = m / 2 ^ k / 2 := by rw [Nat.pow_succ, Nat.div_div_eq_div_mul]
    rw [e] at ih
    rw [List.zipIdx_cons, List.filter_cons]
    show (if bitB (m : Int) k = true then (t, k) :: (ts.zipIdx (k + 1)).filter (fun p => bitB (m : Int) p.2) else (ts.zipIdx (k + 1)).filter fun p => bitB (m : Int) p.2).map (·.1) = if m / 2 ^ k % 2 = 1 then t :: sel ts (m / 2 ^ k / 2) else sel ts (m / 2 ^ k / 2)
    rw [bit_nat]
    by_cases h : m / 2 ^ k % 2 = 1
    · rw [if_pos (decide_eq_true h), if_pos h, List.map_cons, ih]
    · rw [if_neg (by simp [h]), if_neg h, ih]
theorem part_sel (ts : List Int) (m : Nat) : partOf ts (m : Int) = sel ts m := by
  have := sel_at ts m 0
  rw [Nat.pow_zero, Nat.div_one] at this
  exact this
theorem sel_sub : ∀ (ts : List Int) (m : Nat), (sel ts m).Sublist ts
  | [], _ => .slnil
  | t :: ts, m => by
    show (if m % 2 = 1 then _ else _ : List Int).Sublist _
    split
    · exact (sel_sub ts _).cons₂ t
    · exact (sel_sub ts _).cons t
theorem sel_zero : ∀ (ts : List Int) (m : Nat), m < 2 ^ ts.length → sel ts m = [] → m = 0
  | [], m, h, _ => by simp at h; exact h
  | t :: ts, m, h, e => by
    rw [List.length_cons, Nat.pow_succ] at h
    have e : (if m % 2 = 1 then t :: sel ts (m / 2) else sel ts (m / 2)) = [] := e
    split at e
    · cases e
    · have := sel_zero ts (m / 2) (by omega) e
      omega
theorem sel_all : ∀ (ts : List Int) (m : Nat), m < 2 ^ ts.length → (sel ts m).length = ts.length → m + 1 = 2 ^ ts.length
  | [], m, h, _ => by simp at h; simp [h]
  | t :: ts, m, h, e => by
    rw [List.length_cons, Nat.pow_succ] at h
    have e : (if m % 2 = 1 then t :: sel ts (m / 2) else sel ts (m / 2)).length = ts.length + 1 := e
    have hs : (sel ts (m / 2)).length ≤ ts.length := (sel_sub ts _).length_le
    split at e
    · have := sel_all ts (m / 2) (by omega) (by simpa using e)
      rw [List.length_cons, Nat.pow_succ]; omega
    · omega
theorem sel_filter : ∀ (ts : List Int) (p : Int → Bool), ∃ m, m < 2 ^ ts.length ∧ sel ts m = ts.filter p
  | [], p => ⟨0, by simp, rfl⟩
  | t :: ts, p => by
    obtain ⟨m, h1, h2⟩ := sel_filter ts p
    rw [List.length_cons, Nat.pow_succ]
    cases hp : p t with
    | true =>
      refine ⟨2 * m + 1, by omega, ?_⟩
      show (if (2 * m + 1) % 2 = 1 then _ else _ : List Int) = _
      rw [if_pos (by omega), List.filter_cons_of_pos hp, ← h2, show (2 * m + 1) / 2 = m by omega]
    | false =>
      refine ⟨2 * m, by omega, ?_⟩
      show (if (2 * m) % 2 = 1 then _ else _ : List Int) = _
      rw [if_neg (by omega), List.filter_cons_of_neg (by simp [hp]), ← h2, show (2 * m) / 2 = m by omega]
def partsAll (ts : List Int) : List (List Int) := (List.range (2 ^ ts.length - 2)).map fun (i : Nat) => partOf ts (1 + (i : Int))
theorem parts_mem {ts s : List Int} : s ∈ partsAll ts ↔ ∃ m, 1 ≤ m ∧ m + 1 < 2 ^ ts.length ∧ s = sel ts m := by
  unfold partsAll
  rw [List.mem_map]
  constructor
  · rintro ⟨i, hi, rfl⟩
    rw [List.mem_range] at hi
    refine ⟨i + 1, by omega, by omega, ?_⟩
    rw [← part_sel, show (1 : Int) + (i : Int) = ((i + 1 : Nat) : Int) by omega]
  · rintro ⟨m, h1, h2, rfl⟩
    refine ⟨m - 1, List.mem_range.mpr (by omega), ?_⟩
    rw [← part_sel, show (1 : Int) + ((m - 1 : Nat) : Int) = (m : Int) by omega]
/-- a part: a sublist, neither nothing nor all -/
theorem parts_ok {ts s : List Int} (h : s ∈ partsAll ts) : s.Sublist ts ∧ 1 ≤ s.length ∧ s.length < ts.length := by
  obtain ⟨m, h1, h2, rfl⟩ := parts_mem.mp h
  have hs := sel_sub ts m
  refine ⟨hs, ?_, ?_⟩
  · rcases Nat.eq_zero_or_pos (sel ts m).length with q | q
    · have := sel_zero ts m (by omega) (List.eq_nil_of_length_eq_zero q)
      omega
    · exact q
  · have h3 := hs.length_le
    rcases Nat.lt_or_eq_of_le h3 with q | q
    · exact q
    · have := sel_all ts m (by omega) q
      omega
theorem parts_filter {ts : List Int} (p : Int → Bool) (h1 : 1 ≤ (ts.filter p).length) (h2 : (ts.filter p).length < ts.length) : ts.filter p ∈ partsAll ts := by
  obtain ⟨m, h3, h4⟩ := sel_filter ts p
  refine parts_mem.mpr ⟨m, ?_, ?_, h4.symm⟩
  · rcases Nat.eq_zero_or_pos m with q | q
    · subst q
      have z : ∀ ts : List Int, sel ts 0 = [] := fun ts => by
        induction ts with
        | nil => rfl
        | cons t ts ih => show (if 0 % 2 = 1 then _ else _ : List Int) = _; rw [if_neg (by decide)]; exact ih
      rw [← h4, z] at h1
      simp at h1
    · exact q
  · rcases Nat.lt_or_ge (m + 1) (2 ^ ts.length) with q | q
    · exact q
    · exfalso
      have e : m + 1 = 2 ^ ts.length := by omega
      have full : ∀ (ts : List Int) (m : Nat), m + 1 = 2 ^ ts.length → (sel ts m).length = ts.length := by
        intro ts
        induction ts with
        | nil => intro m _; rfl
        | cons t ts ih =>
          intro m h
          rw [List.length_cons, Nat.pow_succ] at h
          show (if m % 2 = 1 then t :: sel ts (m / 2) else sel ts (m / 2)).length = _
          rw [if_pos (by omega), List.length_cons, ih (m / 2) (by omega), List.length_cons]
      rw [← h4, full ts m e] at h2
      omega
theorem sub_filter {ts s : List Int} (nd : ts.Nodup) (h : s.Sublist ts) : s = ts.filter fun y => decide (y ∈ s) := by
  induction h with
  | slnil => rfl
  | cons a h ih =>
    rename_i l1 l2
    obtain ⟨n1, n2⟩ := List.nodup_cons.mp nd
    have : a ∉ l1 := fun z => n1 (h.subset z)
    rw [List.filter_cons_of_neg (by simp [this])]
    exact ih n2
  | cons_cons a h ih =>
    rename_i l1 l2
    obtain ⟨n1, n2⟩ := List.nodup_cons.mp nd
    rw [List.filter_cons_of_pos (by simp)]
    congr 1
    conv => lhs; rw [ih n2]
    refine List.filter_congr fun y hy => ?_
    have : y ≠ a := fun e => n1 (by rw [← e]; exact hy)
    simp [this]
end K96
set_option Elab.async false
set_option linter.all false
set_option maxRecDepth 100000
set_option maxHeartbeats 0
/-! the text's places of the law, and the head's run -/
namespace K96
open PySem L2
def top (i : Nat) : Stmt := PySem.Challenge.pw_bordersalone_k96_whole_falls_undone.main.body.getD i (.Pass ⟨0, 0, 0, 0⟩)
abbrev R : PySem.W.OpenRow := PySem.W.OpenLaw.row PySem.Challenge.rw_bordersalone_k96_whole_falls_undone
def gd (p : Str × Nat) : He.DefD := ⟨(p.1, none), p.1, p.1, defArgs (top p.2), defBody (top p.2), defScope (top p.2), [], []⟩
def dNetwork_init : He.DefD := ⟨("Network", some "__init__"), "__init__", "Network.__init__", defArgs (inClass (top 26) 0), defBody (inClass (top 26) 0), defScope (inClass (top 26) 0), [.bl false], []⟩
def dNetwork_eq : He.DefD := ⟨("Network", some "__eq__"), "__eq__", "Network.__eq__", defArgs (inClass (top 26) 1), defBody (inClass (top 26) 1), defScope (inClass (top 26) 1), [], []⟩
def dNetwork_has_node : He.DefD := ⟨("Network", some "has_node"), "has_node", "Network.has_node", defArgs (inClass (top 26) 2), defBody (inClass (top 26) 2), defScope (inClass (top 26) 2), [], []⟩
def dNetwork_check_node : He.DefD := ⟨("Network", some "check_node"), "check_node", "Network.check_node", defArgs (inClass (top 26) 3), defBody (inClass (top 26) 3), defScope (inClass (top 26) 3), [], []⟩
def dNetwork_key : He.DefD := ⟨("Network", some "key"), "key", "Network.key", defArgs (inClass (top 26) 4), defBody (inClass (top 26) 4), defScope (inClass (top 26) 4), [], []⟩
def dNetwork_capacity : He.DefD := ⟨("Network", some "capacity"), "capacity", "Network.capacity", defArgs (inClass (top 26) 5), defBody (inClass (top 26) 5), defScope (inClass (top 26) 5), [], []⟩
def names1 : List (Str × Nat) := [("is_integer", 13), ("is_between", 14), ("is_list", 15), ("is_tuple_of", 16), ("is_node", 17), ("is_rising", 18), ("are_unlike", 19), ("is_nodes", 20), ("are_nodes", 22), ("are_ends", 23), ("is_edge", 24), ("are_edges", 25), ("with_edges", 29), ("with_capacity", 30), ("near_nodes", 32), ("room_left", 33), ("reached_from", 34), ("reaching", 35), ("way_to", 36), ("push", 37)]
def names2 : List (Str × Nat) := [("grown_flow", 38), ("told_amounts", 39), ("excess_by_node", 41), ("are_nodes_of", 42), ("leaving", 43), ("capacity_of", 44), ("check_both", 45), ("capacities_of", 46), ("maximum_flow", 47), ("nodes_of_least", 48), ("is_part", 51), ("are_parts", 52), ("others", 53), ("check_some", 55), ("value_of", 56), ("cut_value", 57), ("check_part", 59), ("check_parts", 60), ("check_ends", 61), ("least_side", 62)]
def names3 : List (Str × Nat) := [("least_of", 63), ("above", 64), ("room_of", 65), ("margin_of", 66), ("room", 67), ("rise", 68), ("margin", 69), ("loss", 70), ("critical", 71), ("_law_cell", 73), ("_law_box", 74), ("_law_take", 75), ("_law_same", 76), ("_law_mixed", 77), ("_law_net", 78), ("_law_capacity", 79), ("_law_sides", 80), ("_law_cut", 81), ("_law_sets", 82), ("_law_network", 83)]
def names4 : List (Str × Nat) := [("_law_less", 84), ("_law_ends", 85), ("_law_fall_right", 86), ("_law_critical_right", 87), ("law", 88)]
def names : List (Str × Nat) := names1 ++ names2 ++ names3 ++ names4
def fn : List He.DefD := [dNetwork_init, dNetwork_eq, dNetwork_has_node, dNetwork_check_node, dNetwork_key, dNetwork_capacity] ++ names.map gd
def facts0 : List He.Fa := [.int "LAST_NODE" 99, .int "MOST_CAPACITY" 1000000, .int "MOST_SETS" 20, .cls "Network", .mkr "Network", .glo "Network", .noat "Network" "nodes", .noat "Network" "edges", .noat "Network" "terminals", .noat "Network" "inner", .noat "Network" "directed", .noat "Network" "_capacities", .meth "Network" "__eq__", .meth "Network" "has_node", .meth "Network" "check_node", .meth "Network" "key", .meth "Network" "capacity", .free "abs", .free "all", .free "any"]
def facts1 : List He.Fa := [.free "bool", .free "dict", .free "int", .free "isinstance", .free "len", .free "list", .free "max", .free "min", .free "range", .free "sorted", .free "str", .free "sum", .free "tuple", .free "zip"]
def facts0_ : List He.Fa := facts0 ++ facts1
def fa : List He.Fa := facts0_ ++ names.map fun p => He.Fa.glo p.1
def xtra (K : PySem.W.Frag) : Bool := He.eqO (PySem.W.specialIn K (.builtin "object.__class__") "__get__") (some (some (.builtin "getset_descriptor.__get__"))) && (decide (PySem.W.takesIn K (.builtin "object.__class__") = some true) && (He.eqO (PySem.W.findIn K (.ref (He.ga K "Network")) "__class__") (some (some (.builtin "object.__class__")))))
def obX (g : Addr → Option Obj) : He.AlD × Bool := (fun K => (He.obsD fa fn K, xtra K)) (He.frG g (He.asD g 4))
abbrev hk : PySem.W.Hook where
  α := He.AlD × Bool
  obs := fun s => obX s.heap.get?
  val := fun _ => (He.valD fn, true)
  says := fun _ h => ∃ K : PySem.W.Frag, K.In h ∧ He.SaysD fa fn K ∧ xtra K = true
  of := fun _ _ e => ⟨_, He.frG_in, congrArg Prod.fst e, congrArg Prod.snd e⟩
  keeps := fun _ _ _ ⟨K, hK, c⟩ k => ⟨K, PySem.W.Frag.In.keeps hK k, c⟩
def ob (s : PySem.W.SharedT) : He.AlD × Bool := obX (HandSHeadRun.getT s)
theorem ob_eq (s : PySem.W.SharedT) : ob s = hk.obs s.abs := by
  have e : HandSHeadRun.getT s = s.abs.heap.get? := funext (HandSHeadRun.getT_eq s)
  show obX _ = obX _
  rw [e]
def loose1 : List Str := ["_wall", "__name__", "BorderError", "InvalidTerminals", "InvalidSet", "InvalidSets", "InvalidNodes", "InvalidEdges", "InvalidDirected", "InvalidNode", "InvalidCapacity", "LAST_NODE", "Network", "MOST_CAPACITY", "MOST_SETS"]
def loose : List Str := loose1 ++ (names.map (·.1)).dropLast
theorem run (w : World) : HandSHeadRun.RunEq R (PySem.W.view R.prog [88]) hk ob 8000 loose w := by
  intro os
  kernel_rfl
/-- what the walk asks of the top -/
structure Tp (K : PySem.W.Frag) (mg : Str → Option Value) : Prop where
  defs : ∀ (i : Nat) (p : Str × Nat), names[i]? = some p → (∃ fd, FunD K p.1 p.1 (defArgs (top p.2)) (defBody (top p.2)) (defScope (top p.2)) [] [] (He.ga K p.1) fd) ∧ mg p.1 = some (.ref (He.ga K p.1))
  d_Network_init : ∃ fd, FunD K "__init__" "Network.__init__" (defArgs (inClass (top 26) 0)) (defBody (inClass (top 26) 0)) (defScope (inClass (top 26) 0)) [.bl false] [] (He.ma K (He.ga K "Network") "__init__") fd
  d_Network_eq : ∃ fd, FunD K "__eq__" "Network.__eq__" (defArgs (inClass (top 26) 1)) (defBody (inClass (top 26) 1)) (defScope (inClass (top 26) 1)) [] [] (He.ma K (He.ga K "Network") "__eq__") fd
  d_Network_has_node : ∃ fd, FunD K "has_node" "Network.has_node" (defArgs (inClass (top 26) 2)) (defBody (inClass (top 26) 2)) (defScope (inClass (top 26) 2)) [] [] (He.ma K (He.ga K "Network") "has_node") fd
  d_Network_check_node : ∃ fd, FunD K "check_node" "Network.check_node" (defArgs (inClass (top 26) 3)) (defBody (inClass (top 26) 3)) (defScope (inClass (top 26) 3)) [] [] (He.ma K (He.ga K "Network") "check_node") fd
  d_Network_key : ∃ fd, FunD K "key" "Network.key" (defArgs (inClass (top 26) 4)) (defBody (inClass (top 26) 4)) (defScope (inClass (top 26) 4)) [] [] (He.ma K (He.ga K "Network") "key") fd
  d_Network_capacity : ∃ fd, FunD K "capacity" "Network.capacity" (defArgs (inClass (top 26) 5)) (defBody (inClass (top 26) 5)) (defScope (inClass (top 26) 5)) [] [] (He.ma K (He.ga K "Network") "capacity") fd
  LAST_NODE : ∃ u, mg "LAST_NODE" = some u ∧ RelV (.int 99) u
  MOST_CAPACITY : ∃ u, mg "MOST_CAPACITY" = some u ∧ RelV (.int 1000000) u
  MOST_SETS : ∃ u, mg "MOST_SETS" = some u ∧ RelV (.int 20) u
  cls_Network : Cls K (He.ga K "Network")
  mkr_Network : Mk K (He.ga K "Network") (He.ma K (He.ga K "Network") "__init__")
  mg_Network : mg "Network" = some (.ref (He.ga K "Network"))
  no_Network_nodes : NoAttr K (He.ga K "Network") "nodes"
  no_Network_edges : NoAttr K (He.ga K "Network") "edges"
  no_Network_terminals : NoAttr K (He.ga K "Network") "terminals"
  no_Network_inner : NoAttr K (He.ga K "Network") "inner"
  no_Network_directed : NoAttr K (He.ga K "Network") "directed"
  no_Network__capacities : NoAttr K (He.ga K "Network") "_capacities"
  m_Network_eq : Meth K (He.ga K "Network") "__eq__" (He.ma K (He.ga K "Network") "__eq__")
  m_Network_has_node : Meth K (He.ga K "Network") "has_node" (He.ma K (He.ga K "Network") "has_node")
  m_Network_check_node : Meth K (He.ga K "Network") "check_node" (He.ma K (He.ga K "Network") "check_node")
  m_Network_key : Meth K (He.ga K "Network") "key" (He.ma K (He.ga K "Network") "key")
  m_Network_capacity : Meth K (He.ga K "Network") "capacity" (He.ma K (He.ga K "Network") "capacity")
  abs : mg "abs" = none
  all : mg "all" = none
  any : mg "any" = none
  bool : mg "bool" = none
  dict : mg "dict" = none
  int : mg "int" = none
  isinstance : mg "isinstance" = none
  len : mg "len" = none
  list : mg "list" = none
  max : mg "max" = none
  min : mg "min" = none
  range : mg "range" = none
  sorted : mg "sorted" = none
  str : mg "str" = none
  sum : mg "sum" = none
  tuple : mg "tuple" = none
  zip : mg "zip" = none
  ins_Network : C8.InsC K (He.ga K "Network")
theorem tp_of {K : PySem.W.Frag} {h : Heap} {mg : Str → Option Value} (X : K.In h) (G : h.Ns mainGlobals mg) (c : He.SaysD fa fn K) (hx : xtra K = true) : Tp K mg where
  defs := fun i p hp => by
    have e1 : fn[6 + i]? = some (gd p) := by
      have hl : ([dNetwork_init, dNetwork_eq, dNetwork_has_node, dNetwork_check_node, dNetwork_key, dNetwork_capacity] : List He.DefD).length = 6 := rfl
      show ([dNetwork_init, dNetwork_eq, dNetwork_has_node, dNetwork_check_node, dNetwork_key, dNetwork_capacity] ++ names.map gd)[6 + i]? = some (gd p)
      rw [List.getElem?_append_right (by omega), hl, Nat.add_sub_cancel_left, List.getElem?_map, hp]; rfl
    have e2 : fa[34 + i]? = some (.glo p.1) := by
      have hl : facts0_.length = 34 := rfl
      show (facts0_ ++ names.map fun p => He.Fa.glo p.1)[34 + i]? = _
      rw [List.getElem?_append_right (by omega), hl, Nat.add_sub_cancel_left, List.getElem?_map, hp]; rfl
    exact ⟨c.def_ (6 + i) e1, He.glo_ok X G (c.fact (34 + i) e2)⟩
  d_Network_init := c.def_ 0 (d := dNetwork_init) rfl
  d_Network_eq := c.def_ 1 (d := dNetwork_eq) rfl
  d_Network_has_node := c.def_ 2 (d := dNetwork_has_node) rfl
  d_Network_check_node := c.def_ 3 (d := dNetwork_check_node) rfl
  d_Network_key := c.def_ 4 (d := dNetwork_key) rfl
  d_Network_capacity := c.def_ 5 (d := dNetwork_capacity) rfl
  LAST_NODE := by
    obtain ⟨t, e⟩ := He.int_ok X G (c.fact 0 (f := .int "LAST_NODE" 99) rfl)
    exact ⟨_, e, t, rfl⟩
  MOST_CAPACITY := by
    obtain ⟨t, e⟩ := He.int_ok X G (c.fact 1 (f := .int "MOST_CAPACITY" 1000000) rfl)
    exact ⟨_, e, t, rfl⟩
  MOST_SETS := by
    obtain ⟨t, e⟩ := He.int_ok X G (c.fact 2 (f := .int "MOST_SETS" 20) rfl)
    exact ⟨_, e, t, rfl⟩
  cls_Network := He.cls_ok (c.fact 3 (f := .cls "Network") rfl)
  mkr_Network := He.mkr_ok (c.fact 4 (f := .mkr "Network") rfl)
  mg_Network := He.glo_ok X G (c.fact 5 (f := .glo "Network") rfl)
  no_Network_nodes := He.noat_ok (c.fact 6 (f := .noat "Network" "nodes") rfl)
  no_Network_edges := He.noat_ok (c.fact 7 (f := .noat "Network" "edges") rfl)
  no_Network_terminals := He.noat_ok (c.fact 8 (f := .noat "Network" "terminals") rfl)
  no_Network_inner := He.noat_ok (c.fact 9 (f := .noat "Network" "inner") rfl)
  no_Network_directed := He.noat_ok (c.fact 10 (f := .noat "Network" "directed") rfl)
  no_Network__capacities := He.noat_ok (c.fact 11 (f := .noat "Network" "_capacities") rfl)
  m_Network_eq := He.meth_ok (c.fact 12 (f := .meth "Network" "__eq__") rfl)
  m_Network_has_node := He.meth_ok (c.fact 13 (f := .meth "Network" "has_node") rfl)
  m_Network_check_node := He.meth_ok (c.fact 14 (f := .meth "Network" "check_node") rfl)
  m_Network_key := He.meth_ok (c.fact 15 (f := .meth "Network" "key") rfl)
  m_Network_capacity := He.meth_ok (c.fact 16 (f := .meth "Network" "capacity") rfl)
  abs := He.free_ok X G (c.fact 17 (f := .free "abs") rfl)
  all := He.free_ok X G (c.fact 18 (f := .free "all") rfl)
  any := He.free_ok X G (c.fact 19 (f := .free "any") rfl)
  bool := He.free_ok X G (c.fact 20 (f := .free "bool") rfl)
  dict := He.free_ok X G (c.fact 21 (f := .free "dict") rfl)
  int := He.free_ok X G (c.fact 22 (f := .free "int") rfl)
  isinstance := He.free_ok X G (c.fact 23 (f := .free "isinstance") rfl)
  len := He.free_ok X G (c.fact 24 (f := .free "len") rfl)
  list := He.free_ok X G (c.fact 25 (f := .free "list") rfl)
  max := He.free_ok X G (c.fact 26 (f := .free "max") rfl)
  min := He.free_ok X G (c.fact 27 (f := .free "min") rfl)
  range := He.free_ok X G (c.fact 28 (f := .free "range") rfl)
  sorted := He.free_ok X G (c.fact 29 (f := .free "sorted") rfl)
  str := He.free_ok X G (c.fact 30 (f := .free "str") rfl)
  sum := He.free_ok X G (c.fact 31 (f := .free "sum") rfl)
  tuple := He.free_ok X G (c.fact 32 (f := .free "tuple") rfl)
  zip := He.free_ok X G (c.fact 33 (f := .free "zip") rfl)
  ins_Network := by
    obtain ⟨h1, h2⟩ := He.ba hx
    obtain ⟨h2, h3⟩ := He.ba h2
    exact ⟨He.cls_ok (c.fact 3 (f := .cls "Network") rfl), He.eqO_ok h3, He.eqO_ok h1, of_decide_eq_true h2, L2.mro_obj (He.mkr_ok (c.fact 4 (f := .mkr "Network") rfl)).makes, by unfold PySem.W.kitOne; simp⟩
end K96
set_option Elab.async false
set_option linter.all false
set_option maxRecDepth 100000
set_option maxHeartbeats 4000000
/-! the shapes of values -/
namespace K96
open PySem PySem.Spec L2 Rz
section
variable {P : Program} {w : World} {K : PySem.W.Frag} {mg : Str → Option Value} {base : Heap}
theorem Tp.at_ (T : Tp K mg) (i : Nat) (x : Str) (n : Nat) (h : names[i]? = some (x, n) := by rfl) : (∃ fd, FunD K x x (defArgs (top n)) (defBody (top n)) (defScope (top n)) [] [] (He.ga K x) fd) ∧ mg x = some (.ref (He.ga K x)) := T.defs i (x, n) h

abbrev spInt : Sp := Prm (fun i : Int => [rInt i]) (fun _ => []) (fun _ => True) (fun _ => rBl true)
theorem ok_is_integer (T : Tp K mg) {fd : FuncData} (F : FunD K "is_integer" "is_integer" (defArgs (top 13)) (defBody (top 13)) (defScope (top 13)) [] [] (He.ga K "is_integer") fd) : FnOk P w K mg base CX0 1 (He.ga K "is_integer") fd ["value"] spInt := by
  have sc : FnScope ["value"] ["value"] (defScope (top 13)) := ⟨rfl, rfl, rfl, by decide +kernel, rfl, by decide +kernel, by decide +kernel⟩
  refine fn_prm F sc (fun _ => rfl) (fun _ => by first | exact List.nodup_nil | exact nd_fl | simp) fun cdv A outer s H E hr => ?_
  refine ⟨_, (pss_one (ps_ret (pe_and (pe_callB call_isi (by rfl) T.isinstance boot_isi (pa_cons (pv 0) (pa_cons (pe_ty (by rfl) T.int boot_int) pa_nil))) (pe_one (pe_not (pe_callB call_isi (by rfl) T.isinstance boot_isi (pa_cons (pv 0) (pa_cons (pe_ty (by rfl) T.bool boot_bool) pa_nil)))))))), fun a _ => ?_⟩
  exact ht_ret (ev_and (ev_cb (ea_cons (ev_var rfl) (ea_cons ev_c ea_nil)) (vc_isi ty_int rfl)) fun _ => ev_not (ev_cb (ea_cons (ev_var rfl) (ea_cons ev_c ea_nil)) (vc_isi ty_int rfl))) rfl

theorem c_is_integer (T : Tp K mg) : Kal P w K mg base 1 "is_integer" ["value"] spInt := by
  obtain ⟨⟨fd, F⟩, hm⟩ := T.at_ 0 "is_integer" 13
  exact kal_of F hm (ok_is_integer T F) (fun _ _ _ _ _ _ us hl => match us, hl with | [_], _ => rfl)
abbrev spBetween : Sp := Prm (fun x : Int × Int × Int => [rInt x.1, rInt x.2.1, rInt x.2.2]) (fun _ => []) (fun _ => True) (fun x => rBl (decide (x.2.1 ≤ x.1) && decide (x.1 ≤ x.2.2)))
theorem ok_is_between (T : Tp K mg) {fd : FuncData} (F : FunD K "is_between" "is_between" (defArgs (top 14)) (defBody (top 14)) (defScope (top 14)) [] [] (He.ga K "is_between") fd) : FnOk P w K mg base CX0 2 (He.ga K "is_between") fd ["value", "least", "most"] spBetween := by
  have sc : FnScope ["value", "least", "most"] ["value", "least", "most"] (defScope (top 14)) := ⟨rfl, rfl, rfl, by decide +kernel, rfl, by decide +kernel, by decide +kernel⟩
  have c_is_integer := c_is_integer (P := P) (w := w) (base := base) T
  refine fn_prm F sc (fun _ => rfl) (fun _ => by first | exact List.nodup_nil | exact nd_fl | simp) fun cdv A outer s H E hr => ?_
  refine ⟨_, (pss_one (ps_ret (pe_and (pe_k c_is_integer hr (by decide) (by rfl) (pa_cons (pv 0) pa_nil)) (pe_one (pe_chain op_le op_le (pv 1) (pv 0) (pv 2)))))), fun a _ => ?_⟩
  exact ht_ret (ev_and (ev_call a.1 (ea_cons (ev_var rfl) ea_nil) trivial) fun _ => ev_chain (ev_var rfl) (ev_var rfl) vo_I0 (ev_var rfl) vo_I0) rfl

theorem c_is_between (T : Tp K mg) : Kal P w K mg base 2 "is_between" ["value", "least", "most"] spBetween := by
  obtain ⟨⟨fd, F⟩, hm⟩ := T.at_ 1 "is_between" 14
  exact kal_of F hm (ok_is_between T F) (fun _ _ _ _ _ _ us hl => match us, hl with | [_, _, _], _ => rfl)
abbrev spList (K : PySem.W.Frag) : Sp := Prm (fun x : Rp => [x]) (fun _ => []) (fun x => HasTy K x "tuple" ∨ HasTy K x "list") (fun _ => rBl true)
theorem ok_is_list (T : Tp K mg) {fd : FuncData} (F : FunD K "is_list" "is_list" (defArgs (top 15)) (defBody (top 15)) (defScope (top 15)) [] [] (He.ga K "is_list") fd) : FnOk P w K mg base CX0 1 (He.ga K "is_list") fd ["value"] (spList K) := by
  have sc : FnScope ["value"] ["value"] (defScope (top 15)) := ⟨rfl, rfl, rfl, by decide +kernel, rfl, by decide +kernel, by decide +kernel⟩
  refine fn_prm F sc (fun _ => rfl) (fun _ => by first | exact List.nodup_nil | exact nd_fl | simp) fun cdv A outer s H E hr => ?_
  refine ⟨_, (pss_one (ps_ret (pe_callB call_isiT (by rfl) T.isinstance boot_isi (pa_cons (pv 0) (pa_cons (pe_tup (pa_cons (pe_ty (by rfl) T.list boot_lst) (pa_cons (pe_ty (by rfl) T.tuple boot_tup) pa_nil))) pa_nil))))), fun a hp => ?_⟩
  rcases hp with hp | hp
  · exact ht_ret (ev_cb (ea_cons (ev_var rfl) (ea_cons (ev_tup (ea_cons ev_c (ea_cons ev_c ea_nil))) ea_nil)) (vc_isi2 (b1 := false) (b2 := true) hp rfl rfl)) rfl
  · exact ht_ret (ev_cb (ea_cons (ev_var rfl) (ea_cons (ev_tup (ea_cons ev_c (ea_cons ev_c ea_nil))) ea_nil)) (vc_isi2 (b1 := true) (b2 := false) hp rfl rfl)) rfl

theorem c_is_list (T : Tp K mg) : Kal P w K mg base 1 "is_list" ["value"] (spList K) := by
  obtain ⟨⟨fd, F⟩, hm⟩ := T.at_ 2 "is_list" 15
  exact kal_of F hm (ok_is_list T F) (fun _ _ _ _ _ _ us hl => match us, hl with | [_], _ => rfl)
abbrev spTupleOf : Sp := Prm (fun x : List Rp × Int => [rTup x.1, rInt x.2]) (fun _ => []) (fun _ => True) (fun x => rBl (decide ((x.1.length : Int) = x.2)))
theorem ok_is_tuple_of (T : Tp K mg) {fd : FuncData} (F : FunD K "is_tuple_of" "is_tuple_of" (defArgs (top 16)) (defBody (top 16)) (defScope (top 16)) [] [] (He.ga K "is_tuple_of") fd) : FnOk P w K mg base CX0 1 (He.ga K "is_tuple_of") fd ["value", "many"] spTupleOf := by
  have sc : FnScope ["value", "many"] ["value", "many"] (defScope (top 16)) := ⟨rfl, rfl, rfl, by decide +kernel, rfl, by decide +kernel, by decide +kernel⟩
  refine fn_prm F sc (fun _ => rfl) (fun _ => by first | exact List.nodup_nil | exact nd_fl | simp) fun cdv A outer s H E hr => ?_
  refine ⟨_, (pss_one (ps_ret (pe_and (pe_callB call_isi (by rfl) T.isinstance boot_isi (pa_cons (pv 0) (pa_cons (pe_ty (by rfl) T.tuple boot_tup) pa_nil))) (pe_one (pe_cmpR op_eq (pe_callB call_len_seq (by rfl) T.len PySem.boot_len (pa_cons (pv 0) pa_nil)) (pv 1) (nomark _)))))), fun a _ => ?_⟩
  exact ht_ret (ev_and (ev_cb (ea_cons (ev_var rfl) (ea_cons ev_c ea_nil)) (vc_isi ty_tup rfl)) fun _ => ev_op (ev_cb (ea_cons (ev_var rfl) ea_nil) vc_lenT) (ev_var rfl) vo_eqI) rfl

theorem c_is_tuple_of (T : Tp K mg) : Kal P w K mg base 1 "is_tuple_of" ["value", "many"] spTupleOf := by
  obtain ⟨⟨fd, F⟩, hm⟩ := T.at_ 3 "is_tuple_of" 16
  exact kal_of F hm (ok_is_tuple_of T F) (fun _ _ _ _ _ _ us hl => match us, hl with | [_, _], _ => rfl)
abbrev spNode : Sp := Prm (fun i : Int => [rInt i]) (fun _ => []) (fun _ => True) (fun i => rBl (decide (0 ≤ i) && decide (i ≤ 99)))
theorem ok_is_node (T : Tp K mg) {fd : FuncData} (F : FunD K "is_node" "is_node" (defArgs (top 17)) (defBody (top 17)) (defScope (top 17)) [] [] (He.ga K "is_node") fd) : FnOk P w K mg base CX0 3 (He.ga K "is_node") fd ["value"] spNode := by
  have sc : FnScope ["value"] ["value"] (defScope (top 17)) := ⟨rfl, rfl, rfl, by decide +kernel, rfl, by decide +kernel, by decide +kernel⟩
  have c_is_between := c_is_between (P := P) (w := w) (base := base) T
  refine fn_prm F sc (fun _ => rfl) (fun _ => by first | exact List.nodup_nil | exact nd_fl | simp) fun cdv A outer s H E hr => ?_
  refine ⟨_, (pss_one (ps_ret (pe_k c_is_between hr (by decide) (by rfl) (pa_cons (pv 0) (pa_cons pe_int (pa_cons (pe_cn (by rfl) T.LAST_NODE) pa_nil)))))), fun a _ => ?_⟩
  exact ht_ret (ev_call (a, 0, 99) (ea_cons (ev_var rfl) (ea_cons ev_c (ea_cons ev_c ea_nil))) trivial) rfl

theorem c_is_node (T : Tp K mg) : Kal P w K mg base 3 "is_node" ["value"] spNode := by
  obtain ⟨⟨fd, F⟩, hm⟩ := T.at_ 4 "is_node" 17
  exact kal_of F hm (ok_is_node T F) (fun _ _ _ _ _ _ us hl => match us, hl with | [_], _ => rfl)
theorem zip_map (ns ms : List Int) : List.zipWith (fun a b => rTup [a, b]) (ns.map fun n => rIs (.int n)) (ms.map fun n => rIs (.int n)) = (ns.zip ms).map fun p => rTup [rInt p.1, rInt p.2] := by
  induction ns generalizing ms with
  | nil => simp
  | cons n ns ih =>
    cases ms with
    | nil => simp
    | cons m ms => simp only [List.map_cons, List.zipWith_cons_cons, List.zip_cons_cons]; rw [ih]
theorem rising_all : ∀ {ns : List Int}, ns.Pairwise (· < ·) → (ns.zip (ns.drop 1)).all (fun p => decide (p.1 < p.2)) = true
  | [], _ => rfl
  | [_], _ => rfl
  | n :: m :: r, h => by
    have h1 := List.pairwise_cons.mp h
    have ih := rising_all h1.2
    show (decide (n < m) && ((m :: r).zip ((m :: r).drop 1)).all _) = true
    rw [ih, decide_eq_true (h1.1 m (by simp))]; rfl
theorem vc_allF {α : Type} {O : Os} {xs : List α} {f : α → Bool} : VC O (rAll K) [rLst (xs.map fun x => rBl (f x))] (rBl (xs.all f)) := by
  have h := vc_all (K := K) (O := O) (bs := xs.map f)
  rw [List.map_map] at h
  have e : (xs.map f).all id = xs.all f := by rw [List.all_map]; rfl
  rw [e] at h; exact h
theorem small {n : Nat} (h : n ≤ 1000) : n ≤ sizeLine := Nat.le_trans h (by decide)
abbrev spRising : Sp := Prm (fun ns : List Int => [rTI ns]) (fun _ => []) (fun ns => ns.Pairwise (· < ·) ∧ ns.length ≤ 1000) (fun _ => rBl true)
theorem ok_is_rising (T : Tp K mg) {fd : FuncData} (F : FunD K "is_rising" "is_rising" (defArgs (top 18)) (defBody (top 18)) (defScope (top 18)) [] [] (He.ga K "is_rising") fd) : FnOk P w K mg base CX0 1 (He.ga K "is_rising") fd ["items"] spRising := by
  have sc : FnScope ["items", "one", "other"] ["items"] (defScope (top 18)) := ⟨rfl, rfl, rfl, by decide +kernel, rfl, by decide +kernel, by decide +kernel⟩
  refine fn_prm F sc (fun _ => rfl) (fun _ => by first | exact List.nodup_nil | exact nd_fl | simp) fun cdv A outer s H E hr => ?_
  refine ⟨_, (pss_one (ps_ret (pe_callB (cr_all rfl) (by rfl) T.all boot_all (pa_cons (pe_lc (own := [("one", 1), ("other", 2)]) (by rfl) sc.nd (RZ.pi_zipA (by rfl) T.zip (pa_cons (pv 0) (pa_cons (pe_slice sl_tupA (pv 0) (po_some pe_int) po_none) pa_nil))) (blkOk_by (by kernel_rfl)) (fun _ _ _ _ _ => (pg_tupK K (n := 2) (by rfl) (pgs_cons (pg_name (i := 1) sc.nd rfl (Or.inl rfl)) (pgs_cons (pg_name (i := 2) sc.nd rfl (Or.inl rfl)) pgs_nil)))) (fun _ _ _ _ _ => pts_nil) (fun _ _ _ _ _ => (pe_cmpR op_lt (pv 1) (pv 2) (nomark _)))) pa_nil)))), fun ns hp => ?_⟩
  obtain ⟨h1, h2⟩ := hp
  refine ht_ret (ev_cb (ea_cons (ev_lc0 (xs := ns.zip (ns.drop 1)) (f := fun p => rTup [rInt p.1, rInt p.2]) (r := fun p => rBl (decide (p.1 < p.2))) ?_ ?_ fun p _ => ⟨_, _, tg_two, by simp, ev_op (ev_var rfl) (ev_var rfl) vo_I0⟩) ea_nil) vc_allF) ?_
  · rw [← zip_map, List.map_drop]
    exact src_zipT (ea_cons (ev_var rfl) (ea_cons (ev_fromT (j := 1) (ev_var rfl)) ea_nil))
  · exact small (by rw [List.length_zip]; omega)
  · show rBl _ = rBl true
    rw [rising_all h1]

theorem c_is_rising (T : Tp K mg) : Kal P w K mg base 1 "is_rising" ["items"] spRising := by
  obtain ⟨⟨fd, F⟩, hm⟩ := T.at_ 5 "is_rising" 18
  exact kal_of F hm (ok_is_rising T F) (fun _ _ _ _ _ _ us hl => match us, hl with | [_], _ => rfl)
theorem all_of {α : Type} {xs : List α} {f : α → Bool} (h : ∀ x ∈ xs, f x = true) : xs.all f = true := List.all_eq_true.mpr h
/-- rising nodes -/
def NodesOk (ns : List Int) : Prop := (∀ n ∈ ns, 0 ≤ n ∧ n ≤ 99) ∧ ns.Pairwise (· < ·) ∧ ns.length ≤ 1000
abbrev spNodes : Sp := Prm (fun ns : List Int => [rTI ns]) (fun _ => []) NodesOk (fun _ => rBl true)
theorem ok_is_nodes (T : Tp K mg) {fd : FuncData} (F : FunD K "is_nodes" "is_nodes" (defArgs (top 20)) (defBody (top 20)) (defScope (top 20)) [] [] (He.ga K "is_nodes") fd) : FnOk P w K mg base CX0 4 (He.ga K "is_nodes") fd ["value"] spNodes := by
  have sc : FnScope ["value", "node"] ["value"] (defScope (top 20)) := ⟨rfl, rfl, rfl, by decide +kernel, rfl, by decide +kernel, by decide +kernel⟩
  have c_is_node := c_is_node (P := P) (w := w) (base := base) T
  have c_is_rising := c_is_rising (P := P) (w := w) (base := base) T
  refine fn_prm F sc (fun _ => rfl) (fun _ => by first | exact List.nodup_nil | exact nd_fl | simp) fun cdv A outer s H E hr => ?_
  refine ⟨_, (pss_one (ps_ret (pe_and (pe_callB call_isi (by rfl) T.isinstance boot_isi (pa_cons (pv 0) (pa_cons (pe_ty (by rfl) T.tuple boot_tup) pa_nil))) (pe_and (pe_callB (cr_all rfl) (by rfl) T.all boot_all (pa_cons (pe_lc (own := [("node", 1)]) (by rfl) sc.nd (pi_tup (pv 0)) (blkOk_by (by kernel_rfl)) (fun _ _ _ _ _ => (pg_name (i := 1) sc.nd rfl (Or.inl rfl))) (fun _ _ _ _ _ => pts_nil) (fun _ _ _ _ _ => (pe_k c_is_node hr (by decide) (by rfl) (pa_cons (pv 1) pa_nil)))) pa_nil)) (pe_one (pe_k c_is_rising hr (by decide) (by rfl) (pa_cons (pv 0) pa_nil))))))), fun ns hp => ?_⟩
  obtain ⟨h1, h2, h3⟩ := hp
  refine ht_ret (ev_and (ev_cb (ea_cons (ev_var rfl) (ea_cons ev_c ea_nil)) (vc_isi ty_tup rfl)) fun _ => ev_and (ev_cb (ea_cons (ev_lc0 (src_tup (ev_var rfl)) (small h3) fun n _ => ⟨_, _, tg_name, by simp, ev_call n (ea_cons (ev_var rfl) ea_nil) trivial⟩) ea_nil) vc_allF) fun _ => ev_call ns (ea_cons (ev_var rfl) ea_nil) ⟨h2, h3⟩) ?_
  show rBl (true && (ns.all (fun n => decide (0 ≤ n) && decide (n ≤ 99)) && true)) = rBl true
  rw [all_of fun n hn => by rw [decide_eq_true (h1 n hn).1, decide_eq_true (h1 n hn).2]; rfl]
  rfl
theorem c_is_nodes (T : Tp K mg) : Kal P w K mg base 4 "is_nodes" ["value"] spNodes := by
  obtain ⟨⟨fd, F⟩, hm⟩ := T.at_ 7 "is_nodes" 20
  exact kal_of F hm (ok_is_nodes T F) (fun _ _ _ _ _ _ us hl => match us, hl with | [_], _ => rfl)
abbrev spPow : Sp := Prm (fun n : Nat => [rInt (n : Int)]) (fun _ => []) (fun n => n ≤ 1000) (fun n => rInt (2 ^ n))
abbrev spPart : Sp := Prm (fun x : List Int × List Int => [rTI x.1, rTI x.2]) (fun _ => []) (fun x => NodesOk x.2 ∧ (∀ n ∈ x.2, n ∈ x.1) ∧ 1 ≤ x.2.length ∧ x.2.length < x.1.length) (fun _ => rBl true)
theorem ok_is_part (T : Tp K mg) {fd : FuncData} (F : FunD K "is_part" "is_part" (defArgs (top 51)) (defBody (top 51)) (defScope (top 51)) [] [] (He.ga K "is_part") fd) : FnOk P w K mg base CX0 5 (He.ga K "is_part") fd ["terminals", "value"] spPart := by
  have sc : FnScope ["terminals", "value", "node"] ["terminals", "value"] (defScope (top 51)) := ⟨rfl, rfl, rfl, by decide +kernel, rfl, by decide +kernel, by decide +kernel⟩
  have c_is_nodes := c_is_nodes (P := P) (w := w) (base := base) T
  refine fn_prm F sc (fun _ => rfl) (fun _ => by first | exact List.nodup_nil | exact nd_fl | simp) fun cdv A outer s H E hr => ?_
  refine ⟨_, (pss_cons (ps_if (PW.pt (pw_or (pt_not (pt_val (pe_k c_is_nodes hr (by decide) (by rfl) (pa_cons (pv 1) pa_nil)))) (pw_or1 (pt_not (pt_val (pe_callB (cr_all rfl) (by rfl) T.all boot_all (pa_cons (pe_lc (own := [("node", 2)]) (by rfl) sc.nd (pi_tup (pv 1)) (blkOk_by (by kernel_rfl)) (fun _ _ _ _ _ => (pg_name (i := 2) sc.nd rfl (Or.inl rfl))) (fun _ _ _ _ _ => pts_nil) (fun _ _ _ _ _ => (pe_cmpR (op_inK K) (pv 2) (pv 0) rfl))) pa_nil))))))) (pss_one (ps_ret pe_bl)) pss_nil)
      (pss_one (ps_ret (pe_chain op_le op_lt pe_int (pe_callB call_len_seq (by rfl) T.len PySem.boot_len (pa_cons (pv 1) pa_nil)) (pe_callB call_len_seq (by rfl) T.len PySem.boot_len (pa_cons (pv 0) pa_nil)))))), fun x hp => ?_⟩
  obtain ⟨h1, h2, h3, h4⟩ := hp
  have ha : x.2.all (fun n => decide (n ∈ x.1)) = true := all_of fun n hn => decide_eq_true (h2 n hn)
  refine hs_ifNo (EvB.to (eb_or (eb_not (eb_b (ev_call x.2 (ea_cons (ev_var rfl) ea_nil) h1))) fun _ => eb_not (eb_b (ev_cb (ea_cons (ev_lc0 (src_tup (ev_var rfl)) (small h1.2.2) fun n _ => ⟨_, _, tg_name, by simp, ev_op (ev_var rfl) (ev_var rfl) vo_isT⟩) ea_nil) vc_allF))) (by rw [ha]; rfl)) ?_
  refine ht_ret (ev_chain ev_c (ev_cb (ea_cons (ev_var rfl) ea_nil) vc_lenT) vo_I0 (ev_cb (ea_cons (ev_var rfl) ea_nil) vc_lenT) vo_I0) ?_
  show rBl _ = rBl true
  rw [decide_eq_true (by simp; omega), decide_eq_true (by simp; omega)]; rfl
theorem c_is_part (T : Tp K mg) : Kal P w K mg base 5 "is_part" ["terminals", "value"] spPart := by
  obtain ⟨⟨fd, F⟩, hm⟩ := T.at_ 30 "is_part" 51
  exact kal_of F hm (ok_is_part T F) (fun _ _ _ _ _ _ us hl => match us, hl with | [_, _], _ => rfl)
/-- those of some that others have not -/
def less (a b : List Int) : List Int := a.filter fun n => !decide (n ∈ b)
abbrev spLess : Sp := Prm (fun x : List Int × List Int => [rTI x.1, rTI x.2]) (fun _ => []) (fun x => x.1.length ≤ 1000) (fun x => rTI (less x.1 x.2))
theorem ok_others (T : Tp K mg) {fd : FuncData} (F : FunD K "others" "others" (defArgs (top 53)) (defBody (top 53)) (defScope (top 53)) [] [] (He.ga K "others") fd) : FnOk P w K mg base CX0 1 (He.ga K "others") fd ["terminals", "some"] spLess := by
  have sc : FnScope ["terminals", "some", "node"] ["terminals", "some"] (defScope (top 53)) := ⟨rfl, rfl, rfl, by decide +kernel, rfl, by decide +kernel, by decide +kernel⟩
  refine fn_prm F sc (fun _ => rfl) (fun _ => by first | exact List.nodup_nil | exact nd_fl | simp) fun cdv A outer s H E hr => ?_
  refine ⟨_, (pss_one (ps_ret (pe_callTy call_tuple_of (by rfl) T.tuple boot_tup (pa_cons (pe_lc (own := [("node", 2)]) (by rfl) sc.nd (pi_tup (pv 0)) (blkOk_by (by kernel_rfl)) (fun _ _ _ _ _ => (pg_name (i := 2) sc.nd rfl (Or.inl rfl))) (fun _ _ _ _ _ => (pts_one (pt_cmpR (op_ninK K) (pv 2) (pv 1) rfl))) (fun _ _ _ _ _ => (pv 2))) pa_nil)))), fun x hp => ?_⟩
  exact ht_ret (ev_cb (ea_cons (ev_lc (src_tup (ev_var rfl)) (small hp) fun n _ => ⟨_, _, tg_name, by simp, eb_test (ev_op (ev_var rfl) (ev_var rfl) vo_niT), fun _ => ev_var rfl⟩) ea_nil) vc_tupleL) rfl
theorem c_others (T : Tp K mg) : Kal P w K mg base 1 "others" ["terminals", "some"] spLess := by
  obtain ⟨⟨fd, F⟩, hm⟩ := T.at_ 32 "others" 53
  exact kal_of F hm (ok_others T F) (fun _ _ _ _ _ _ us hl => match us, hl with | [_, _], _ => rfl)
end
end K96
set_option Elab.async false
set_option linter.all false
set_option maxRecDepth 100000
set_option maxHeartbeats 4000000
/-! the flow -/
namespace K96
open PySem PySem.Spec L2 Rz Cut
section
variable {P : Program} {w : World} {K : PySem.W.Frag} {mg : Str → Option Value} {base : Heap}
/-! ### data -/
abbrev fI : Int → Rp := fun i => rInt i
abbrev rPM (l : PM) : Rp := rDT (mP fI l)
/-- a flow: known, or an object as it is now -/
def rFl (f : PM) : Option Addr → Rp
  | none => rPM f
  | some p => rRef p
def oFl (f : PM) : Option Addr → Os
  | none => []
  | some p => [(p, .dT (mP fI f))]
theorem dt_fl {f : PM} {fo : Option Addr} {O : Os} (h : ∀ e ∈ oFl f fo, e ∈ O) : DT O (rFl f fo) (mP fI f) := by
  cases fo with
  | none => exact .inl rfl
  | some p => exact .inr ⟨p, rfl, .inl (h _ (by simp [oFl]))⟩
theorem nd_fl {f : PM} {fo : Option Addr} : ((oFl f fo).map (·.1)).Nodup := by cases fo <;> simp [oFl]
theorem gt_rp {l : PM} {u v : Int} : (lk (mP fI l) (kP (u, v))).getD (rInt 0) = rInt (gt l u v) := by
  rw [lk_mP]
  unfold gt
  cases lk l (u, v) <;> rfl
theorem ev_kP {t : Tys} {O : Os} {ta tb : TE} {u v : Int} (ha : EvT t O ta (rInt u)) (hb : EvT t O tb (rInt v)) : EvT t O (tTup (tCons ta (tCons tb tNil))) (rKT (kP (u, v))) := ev_tup (Rs := [rInt u, rInt v]) (ea_cons ha (ea_cons hb ea_nil))
abbrev spRoom : Sp := Prm (fun x : (PM × PM × Option Addr) × Int × Int => [rPM x.1.1, rFl x.1.2.1 x.1.2.2, rInt x.2.1, rInt x.2.2]) (fun x => oFl x.1.2.1 x.1.2.2) (fun _ => True) (fun x => rInt (gt x.1.1 x.2.1 x.2.2 - gt x.1.2.1 x.2.1 x.2.2))
theorem ok_room_left (T : Tp K mg) {fd : FuncData} (F : FunD K "room_left" "room_left" (defArgs (top 33)) (defBody (top 33)) (defScope (top 33)) [] [] (He.ga K "room_left") fd) : FnOk P w K mg base CX0 1 (He.ga K "room_left") fd ["capacities", "flow", "u", "v"] spRoom := by
  have sc : FnScope ["capacities", "flow", "u", "v"] ["capacities", "flow", "u", "v"] (defScope (top 33)) := ⟨rfl, rfl, rfl, by decide +kernel, rfl, by decide +kernel, by decide +kernel⟩
  refine fn_prm F sc (fun _ => rfl) (fun _ => by first | exact List.nodup_nil | exact nd_fl | simp) fun cdv A outer s H E hr => ?_
  have hu := hu_of hr
  refine ⟨_, (pss_one (ps_ret (pe_op op_sub (pe_dget2 hu (pv 0) (pe_tup (pa_cons (pv 2) (pa_cons (pv 3) pa_nil))) pe_int ⟨by rfl, by rfl, by rfl, by rfl⟩) (pe_dget2 hu (pv 1) (pe_tup (pa_cons (pv 2) (pa_cons (pv 3) pa_nil))) pe_int ⟨by rfl, by rfl, by rfl, by rfl⟩)))), fun x _ => ?_⟩
  exact ht_ret (ev_op ((ev_dget2T (k := kP (x.2.1, x.2.2)) (ev_var rfl) (.inl rfl) (ev_kP (ev_var rfl) (ev_var rfl)) ev_c).to gt_rp) ((ev_dget2T (k := kP (x.2.1, x.2.2)) (ev_var rfl) (dt_fl fun _ h => h) (ev_kP (ev_var rfl) (ev_var rfl)) ev_c).to gt_rp) vo_I0) rfl
theorem c_room_left (T : Tp K mg) : Kal P w K mg base 1 "room_left" ["capacities", "flow", "u", "v"] spRoom := by
  obtain ⟨⟨fd, F⟩, hm⟩ := T.at_ 15 "room_left" 33
  exact kal_of F hm (ok_room_left T F) (fun _ _ _ _ _ _ us hl => match us, hl with | [_, _, _, _], _ => rfl)
/-! ### what is reached -/
def opV : Option Int → V
  | none => .non
  | some i => .int i
abbrev rOp (o : Option Int) : Rp := rIs (opV o)
abbrev rBef (b : Bef) : Rp := rDK (mI rOp b)
abbrev fL : List Int → Rp := fun L => rLI L
abbrev rNear (n : Near) : Rp := rDK (mI fL n)
theorem near_rp {n : Near} {x : Int} : (lk (mI fL n) (kI x)).getD (rLst []) = rLst ((nearOf n x).map fun i => rInt i) := by
  rw [lk_mI]
  unfold nearOf
  cases lk n x <;> rfl
theorem in_rp {α : Type} {f : α → Rp} {b : List (Int × α)} {x : Int} : (lk (mI f b) (kI x)).isSome = decide (x ∈ ks b) := by
  rw [lk_mI, Option.isSome_map]
  cases h : lk b x with
  | none => exact (decide_eq_false (lk_none.mp h)).symm
  | some a => exact (decide_eq_true (lk_some.mp (by rw [h]; rfl))).symm
theorem ks_len {α : Type} (b : List (Int × α)) : (ks b).length = b.length := List.length_map _
/-- what a walk over a flow's rest is given: neighbours, capacities, flow, where it starts, all nodes -/
abbrev ArgF := Near × PM × PM × Option Addr × List Int × List Int
def PreF (x : ArgF) : Prop := x.2.2.2.2.1.Nodup ∧ (∀ y ∈ x.2.2.2.2.1, y ∈ x.2.2.2.2.2) ∧ (∀ z, ∀ y ∈ nearOf x.1 z, y ∈ x.2.2.2.2.2) ∧ x.2.2.2.2.2.length ≤ 1000
abbrev spReach : Sp := Prm (fun x : ArgF => [rNear x.1, rPM x.2.1, rFl x.2.2.1 x.2.2.2.1, rTI x.2.2.2.2.1]) (fun x => oFl x.2.2.1 x.2.2.2.1) PreF (fun x => rEx (fun b => Reach x.2.2.2.2.2 x.2.2.2.2.1 x.1 x.2.1 x.2.2.1 b) rBef)
theorem pre_ext {α : Type} {l m e : List α} (h : m = l ++ e) {j : Nat} (hj : j < l.length) : m[j]? = l[j]? := by rw [h, List.getElem?_append_left hj]
theorem ok_reached_from (T : Tp K mg) {fd : FuncData} (F : FunD K "reached_from" "reached_from" (defArgs (top 34)) (defBody (top 34)) (defScope (top 34)) [] [] (He.ga K "reached_from") fd) : FnOk P w K mg base CX0 2 (He.ga K "reached_from") fd ["near", "capacities", "flow", "sources"] spReach := by
  have sc : FnScope ["near", "capacities", "flow", "sources", "before", "order", "at", "other", "node"] ["near", "capacities", "flow", "sources"] (defScope (top 34)) := ⟨rfl, rfl, rfl, by decide +kernel, rfl, by decide +kernel, by decide +kernel⟩
  have c_room_left := c_room_left (P := P) (w := w) (base := base) T
  refine fn_prm F sc (fun _ => rfl) (fun _ => by first | exact List.nodup_nil | exact nd_fl | simp) fun cdv A outer s H E hr => ?_
  have hu := hu_of hr
  refine ⟨_, (pss_cons (ps_par3 (i := 4) (j := 5) (l := 6) (by rfl) sc.nd rfl rfl rfl (by decide) (by decide) (by decide) rfl rfl rfl (pa_cons (pe_dc (own := [("node", 8)]) (by rfl) sc.nd (pi_tup (pv 3)) (blkOk_by (by kernel_rfl)) (fun _ _ _ _ _ => (pg_name (i := 8) sc.nd rfl (Or.inl rfl))) (fun _ _ _ _ _ => pts_nil) (fun _ _ _ _ _ => (pv 8)) (fun _ _ _ _ _ => pe_non)) (pa_cons (pe_callTy call_list_of (by rfl) T.list boot_lst (pa_cons (pv 3) pa_nil)) (pa_cons pe_int pa_nil))) (by rfl))
      (pss_cons (ps_while PassesOwn.never (pt_cmpR op_lt (pv 6) (pe_callB call_len_seq (by rfl) T.len PySem.boot_len (pa_cons (pv 5) pa_nil)) (nomark _)) (pss_cons (ps_for PassesOwn.never rfl (pi_list (pe_dget2 hu (pv 0) (pe_ix ix_list (pv 5) (pv 6) (fun _ _ => rfl)) (pe_lst pa_nil) ⟨by rfl, by rfl, by rfl, by rfl⟩)) (pg_name (i := 7) sc.nd rfl (Or.inl rfl)) (pss_one (ps_if (PW.pt (pw_and (pt_cmp (pc_dnotin hu (pv 7) (pv 4)) rfl) (pw_and1 (pt_cmpR op_gt (pe_k c_room_left hr (by decide) (by rfl) (pa_cons (pv 1) (pa_cons (pv 2) (pa_cons (pe_ix ix_list (pv 5) (pv 6) (fun _ _ => rfl)) (pa_cons (pv 7) pa_nil))))) pe_int (nomark _))))) (pss_cons (ps_dput hu (pv 4) (pv 7) (pe_ix ix_list (pv 5) (pv 6) (fun _ _ => rfl)) rfl)
      (pss_one (ps_expr (pe_bm PySem.F.plainAttrs_list PySem.F.slot_list_append PySem.F.type_list_append mt_append (pv 5) (pa_cons (pv 7) pa_nil))))) pss_nil)))
      (pss_one (ps_set (i := 6) sc.nd rfl (Or.inl rfl) (pe_op op_add (pv 6) pe_int)))))
      (pss_one (ps_ret (pv 4))))), fun x hp => ?_⟩
  obtain ⟨n, c, f, fo, src, V⟩ := x
  obtain ⟨h1, h2, h3, h4⟩ := hp
  have h4 : V.length ≤ 1000 := h4
  have hsl : src.length ≤ 1000 := Nat.le_trans (nodup_len h1 h2) h4
  refine hs_par3NNT (en_dcK (k := fun i => kI i) (f := fun i => rInt i) (r := fun _ => rNon) (L := []) (src_tup (ev_var rfl)).w (by simp) (small hsl) fun i _ => ⟨_, _, tg_name, by simp, ev_var rfl, ev_c⟩) (fun p => en_listT (ev_var rfl)) (fun p q => ev_c) (kk := fun p q => ?_)
  have e0 : pkAll [] (src.map fun i => (kI i, rNon)) = mI rOp (src.map fun i => (i, none)) := by
    rw [pkAll_nd]
    · unfold mI; rw [List.map_map]; rfl
    · rw [List.nil_append, List.map_map]
      exact List.Pairwise.map _ (fun a b hab e => hab (Sum.inl.inj e)) h1
  rw [e0]
  let I : Nat → Nxt := fun m t1 O1 W1 => ∃ (b : Bef) (at_ : Nat) (o : Option Rp), BInv V src c f b ∧ (∀ (j : Nat) (z : Int), j < at_ → (ks b)[j]? = some z → ∀ y ∈ nearOf n z, 0 < room c f z y → y ∈ ks b) ∧ at_ ≤ b.length ∧ m = V.length - at_ ∧
    t1 = [some (rNear n), some (rPM c), some (rFl f fo), some (rTI src), some (rRef p), some (rRef q), some (rInt at_), o, none] ∧ O1 = (q, .lst ((ks b).map fun i => rInt i)) :: (p, .dK (mI rOp b)) :: oFl f fo ∧ W1 = [q, p]
  refine hs_while I ⟨_, src.map fun i => (i, none), 0, _, binv_start h1 h2, fun j z hj => absurd hj (Nat.not_lt_zero _), Nat.zero_le _, rfl, rfl, by rw [ks_none], rfl⟩ ?_
  rintro m t1 O1 W1 ⟨b, at_, o, B, cl, hat, rfl, rfl, rfl, rfl⟩
  have hbV : b.length ≤ V.length := by rw [← ks_len]; exact nodup_len B.nd B.inV
  refine ⟨decide ((at_ : Int) < ((ks b).map fun i => rInt i).length), eb_test (ev_op (ev_var rfl) (ev_cb (ea_cons (ev_var rfl) ea_nil) (vc_lenO (by simp))) vo_I0), fun hc => ?_, fun hc => ?_⟩
  · have hlt : at_ < b.length := by
      have := of_decide_eq_true hc
      rw [List.length_map, ks_len] at this; omega
    obtain ⟨z, hz⟩ : ∃ z, (ks b)[at_]? = some z := ⟨(ks b)[at_]'(by rw [ks_len]; exact hlt), List.getElem?_eq_getElem _⟩
    have hzm : z ∈ ks b := List.mem_of_getElem? hz
    have ixz : ∀ {b' : Bef} {ext : List Int} {O : Os} {t : Tys}, ks b' = ks b ++ ext → (q, OC.lst ((ks b').map fun i => rInt i)) ∈ O → t[5]? = some (some (rRef q)) → t[6]? = some (some (rInt at_)) → EvT t O (tOp (rIxL K) (tVar 5) (tVar 6)) (rInt z) := fun {b' ext O t} e hm e5 e6 =>
      ev_op (ev_var e5) (ev_var e6) (vo_ixO hm rfl (by rw [List.getElem?_map, pre_ext e (by rw [ks_len]; exact hlt), hz]; rfl))
    let J : Nat → Nxt := fun i t2 O2 W2 => ∃ (b' : Bef) (ext : List Int) (o' : Option Rp), BInv V src c f b' ∧ ks b' = ks b ++ ext ∧ (∀ (k : Nat) (y : Int), k < i → (nearOf n z)[k]? = some y → 0 < room c f z y → y ∈ ks b') ∧
      t2 = [some (rNear n), some (rPM c), some (rFl f fo), some (rTI src), some (rRef p), some (rRef q), some (rInt at_), o', none] ∧ O2 = (q, .lst ((ks b').map fun i => rInt i)) :: (p, .dK (mI rOp b')) :: oFl f fo ∧ W2 = [q, p]
    refine hs_for (src_lst ((ev_dget2K (ev_var rfl) (.inl rfl) (ixz (b' := b) (ext := []) (by simp) (by simp) rfl rfl) (ev_lst ea_nil)).to near_rp)) J ⟨b, [], o, B, by simp, fun k y hk => absurd hk (Nat.not_lt_zero _), rfl, rfl, rfl⟩ ?_ ?_
    · rintro i R t2 O2 W2 hR ⟨b', ext, o', B', he, hd, rfl, rfl, rfl⟩
      rw [List.getElem?_map] at hR
      cases hy : (nearOf n z)[i]? with
      | none => rw [hy] at hR; cases hR
      | some y =>
        rw [hy] at hR
        cases hR
        have hyV : y ∈ V := h3 z y (List.mem_of_getElem? hy)
        have hbV' : b'.length ≤ V.length := by rw [← ks_len]; exact nodup_len B'.nd B'.inV
        have hzm' : z ∈ ks b' := by rw [he]; exact List.mem_append_left _ hzm
        refine ⟨_, _, tg_name, ?_⟩
        refine ht_if (eb_and (eb_b ((ev_notInK (k := kI y) (ev_var rfl) (ev_var rfl) (.inr ⟨p, rfl, .inl (List.mem_cons_of_mem _ List.mem_cons_self)⟩)).to (R' := rBl (!decide (y ∈ ks b'))) (by rw [in_rp]))) fun _ => eb_test (ev_op (ev_call ((c, f, fo), z, y) (ea_cons (ev_var rfl) (ea_cons (ev_var rfl) (ea_cons (ixz he List.mem_cons_self rfl rfl) (ea_cons (ev_var rfl) ea_nil)))) trivial (fun e he => List.mem_cons_of_mem _ (List.mem_cons_of_mem _ he))) ev_c vo_I0)) (fun ht => ?_) fun hf => ?_
        · rw [Bool.and_eq_true] at ht
          have hyn : y ∉ ks b' := by simpa using ht.1
          have hroom : 0 < room c f z y := of_decide_eq_true ht.2
          have hb2 : ks (b' ++ [(y, some z)]) = ks b' ++ [y] := List.map_append
          refine hs_of (O' := (q, .lst ((ks b').map fun i => rInt i)) :: (p, .dK (mI rOp (b' ++ [(y, some z)]))) :: oFl f fo) (fun {Nx Rt} hn => ht_dputK (R := rOp (some z)) (k := 1) (j := kI y) (ixz he List.mem_cons_self rfl rfl) (ev_var rfl) (ev_var rfl) rfl (.inl (by simp)) (lineBig (by unfold mI; rw [List.length_map]; omega)) ?_) ?_
          · rw [pk_mI, pk_out hyn]; exact hn
          · refine ht_append (k := 0) (R := rInt y) (ev_var rfl) (ev_var rfl) rfl (.inl (by simp)) (lineBig (by rw [List.length_map, ks_len]; omega)) ⟨b' ++ [(y, some z)], ext ++ [y], _, binv_snoc B' hzm' hyn hyV hroom, by rw [hb2, he, List.append_assoc], fun k w hk hw hr => ?_, rfl, ?_, rfl⟩
            · rw [hb2]
              by_cases e : k = i
              · subst e
                rw [hy] at hw; cases hw
                simp
              · exact List.mem_append_left _ (hd k w (by omega) hw hr)
            · rw [hb2, List.map_append]; rfl
        · refine ht_next ⟨b', ext, _, B', he, fun k w hk hw hr => ?_, rfl, rfl, rfl⟩
          by_cases e : k = i
          · subst e
            rw [hy] at hw; cases hw
            rw [Bool.and_eq_false_iff] at hf
            rcases hf with hf | hf
            · simpa using hf
            · have := of_decide_eq_false hf
              exact absurd hr this
          · exact hd k w (by omega) hw hr
    · rintro t2 O2 W2 ⟨b', ext, o', B', he, hd, rfl, rfl, rfl⟩
      have hl' : b'.length = b.length + ext.length := by rw [← ks_len, he, List.length_append, ks_len]
      refine ht_set (i := 6) (ev_op (ev_var rfl) ev_c vo_I0) ⟨V.length - (at_ + 1), by omega, b', at_ + 1, o', B', fun j w hj hw y hy hr => ?_, by omega, rfl, rfl, rfl, rfl⟩
      by_cases e : j = at_
      · subst e
        rw [pre_ext he (by rw [ks_len]; exact hlt), hz] at hw
        cases hw
        obtain ⟨k, hk, ek⟩ := List.mem_iff_getElem.mp hy
        exact hd k y (by simpa using hk) (by rw [List.getElem?_eq_getElem hk, ek]) hr
      · rw [pre_ext he (by rw [ks_len]; omega)] at hw
        rw [he]
        exact List.mem_append_left _ (cl j w (by omega) hw y hy hr)
  · have hge : at_ = b.length := by
      have := of_decide_eq_false hc
      rw [List.length_map, ks_len] at this; omega
    refine HT.freeze (p := p) (i := 4) (k := 1) (c := .dK (mI rOp b)) (rBef b) rfl rfl (by simp) (fun o F hF hok => oc_dK p o F hF hok) ?_
    refine ht_ret (EvT.intro b ⟨B, fun w hw y hy hr => ?_⟩ (ev_var rfl)) rfl
    obtain ⟨j, hj, ej⟩ := List.mem_iff_getElem.mp hw
    have hj2 : j < b.length := by rw [← ks_len]; exact hj
    exact cl j w (by omega) (by rw [List.getElem?_eq_getElem hj, ej]) y hy hr
theorem c_reached_from (T : Tp K mg) : Kal P w K mg base 2 "reached_from" ["near", "capacities", "flow", "sources"] spReach := by
  obtain ⟨⟨fd, F⟩, hm⟩ := T.at_ 16 "reached_from" 34
  exact kal_of F hm (ok_reached_from T F) (fun _ _ _ _ _ _ us hl => match us, hl with | [_, _, _, _], _ => rfl)
/-- members of a dict of True -/
def un (l : List Int) : List (Int × Unit) := l.map fun x => (x, ())
abbrev mTru (l : List Int) : List (Key × Rp) := mI (fun _ : Unit => rBl true) (un l)
theorem ks_un (l : List Int) : ks (un l) = l := by
  unfold ks un
  rw [List.map_map]
  exact List.map_id l
abbrev spReaching : Sp := Prm (fun x : ArgF => [rNear x.1, rPM x.2.1, rFl x.2.2.1 x.2.2.2.1, rTI x.2.2.2.2.1]) (fun x => oFl x.2.2.1 x.2.2.2.1) PreF (fun x => rEx (fun l => TReach x.2.2.2.2.2 x.2.2.2.2.1 x.1 x.2.1 x.2.2.1 l) fun l => rDK (mTru l))
theorem ok_reaching (T : Tp K mg) {fd : FuncData} (F : FunD K "reaching" "reaching" (defArgs (top 35)) (defBody (top 35)) (defScope (top 35)) [] [] (He.ga K "reaching") fd) : FnOk P w K mg base CX0 2 (He.ga K "reaching") fd ["near", "capacities", "flow", "sinks"] spReaching := by
  have sc : FnScope ["near", "capacities", "flow", "sinks", "found", "order", "at", "other", "node"] ["near", "capacities", "flow", "sinks"] (defScope (top 35)) := ⟨rfl, rfl, rfl, by decide +kernel, rfl, by decide +kernel, by decide +kernel⟩
  have c_room_left := c_room_left (P := P) (w := w) (base := base) T
  refine fn_prm F sc (fun _ => rfl) (fun _ => by first | exact List.nodup_nil | exact nd_fl | simp) fun cdv A outer s H E hr => ?_
  have hu := hu_of hr
  refine ⟨_, (pss_cons (ps_par3 (i := 4) (j := 5) (l := 6) (by rfl) sc.nd rfl rfl rfl (by decide) (by decide) (by decide) rfl rfl rfl (pa_cons (pe_dc (own := [("node", 8)]) (by rfl) sc.nd (pi_tup (pv 3)) (blkOk_by (by kernel_rfl)) (fun _ _ _ _ _ => (pg_name (i := 8) sc.nd rfl (Or.inl rfl))) (fun _ _ _ _ _ => pts_nil) (fun _ _ _ _ _ => (pv 8)) (fun _ _ _ _ _ => pe_bl)) (pa_cons (pe_callTy call_list_of (by rfl) T.list boot_lst (pa_cons (pv 3) pa_nil)) (pa_cons pe_int pa_nil))) (by rfl))
      (pss_cons (ps_while PassesOwn.never (pt_cmpR op_lt (pv 6) (pe_callB call_len_seq (by rfl) T.len PySem.boot_len (pa_cons (pv 5) pa_nil)) (nomark _)) (pss_cons (ps_for PassesOwn.never rfl (pi_list (pe_dget2 hu (pv 0) (pe_ix ix_list (pv 5) (pv 6) (fun _ _ => rfl)) (pe_lst pa_nil) ⟨by rfl, by rfl, by rfl, by rfl⟩)) (pg_name (i := 7) sc.nd rfl (Or.inl rfl)) (pss_one (ps_if (PW.pt (pw_and (pt_cmp (pc_dnotin hu (pv 7) (pv 4)) rfl) (pw_and1 (pt_cmpR op_gt (pe_k c_room_left hr (by decide) (by rfl) (pa_cons (pv 1) (pa_cons (pv 2) (pa_cons (pv 7) (pa_cons (pe_ix ix_list (pv 5) (pv 6) (fun _ _ => rfl)) pa_nil))))) pe_int (nomark _))))) (pss_cons (ps_dput hu (pv 4) (pv 7) pe_bl rfl)
      (pss_one (ps_expr (pe_bm PySem.F.plainAttrs_list PySem.F.slot_list_append PySem.F.type_list_append mt_append (pv 5) (pa_cons (pv 7) pa_nil))))) pss_nil)))
      (pss_one (ps_set (i := 6) sc.nd rfl (Or.inl rfl) (pe_op op_add (pv 6) pe_int)))))
      (pss_one (ps_ret (pv 4))))), fun x hp => ?_⟩
  obtain ⟨n, c, f, fo, snk, V⟩ := x
  obtain ⟨h1, h2, h3, h4⟩ := hp
  have h4 : V.length ≤ 1000 := h4
  have hsl : snk.length ≤ 1000 := Nat.le_trans (nodup_len h1 h2) h4
  refine hs_par3NNT (en_dcK (k := fun i => kI i) (f := fun i => rInt i) (r := fun _ => rBl true) (L := []) (src_tup (ev_var rfl)).w (by simp) (small hsl) fun i _ => ⟨_, _, tg_name, by simp, ev_var rfl, ev_c⟩) (fun p => en_listT (ev_var rfl)) (fun p q => ev_c) (kk := fun p q => ?_)
  have e0 : pkAll [] (snk.map fun i => (kI i, rBl true)) = mTru snk := by
    rw [pkAll_nd]
    · unfold mTru mI un; rw [List.map_map]; rfl
    · rw [List.nil_append, List.map_map]
      exact List.Pairwise.map _ (fun a b hab e => hab (Sum.inl.inj e)) h1
  rw [e0]
  let I : Nat → Nxt := fun m t1 O1 W1 => ∃ (l : List Int) (at_ : Nat) (o : Option Rp), TInv V snk c f l ∧ (∀ (j : Nat) (z : Int), j < at_ → l[j]? = some z → ∀ y ∈ nearOf n z, 0 < room c f y z → y ∈ l) ∧ at_ ≤ l.length ∧ m = V.length - at_ ∧
    t1 = [some (rNear n), some (rPM c), some (rFl f fo), some (rTI snk), some (rRef p), some (rRef q), some (rInt at_), o, none] ∧ O1 = (q, .lst (l.map fun i => rInt i)) :: (p, .dK (mTru l)) :: oFl f fo ∧ W1 = [q, p]
  refine hs_while I ⟨_, snk, 0, _, tinv_start h1 h2, fun j z hj => absurd hj (Nat.not_lt_zero _), Nat.zero_le _, rfl, rfl, rfl, rfl⟩ ?_
  rintro m t1 O1 W1 ⟨l, at_, o, B, cl, hat, rfl, rfl, rfl, rfl⟩
  have hbV : l.length ≤ V.length := nodup_len B.nd B.inV
  refine ⟨decide ((at_ : Int) < (l.map fun i => rInt i).length), eb_test (ev_op (ev_var rfl) (ev_cb (ea_cons (ev_var rfl) ea_nil) (vc_lenO List.mem_cons_self)) vo_I0), fun hc => ?_, fun hc => ?_⟩
  · have hlt : at_ < l.length := by
      have := of_decide_eq_true hc
      rw [List.length_map] at this; omega
    obtain ⟨z, hz⟩ : ∃ z, l[at_]? = some z := ⟨l[at_], List.getElem?_eq_getElem _⟩
    have hzm : z ∈ l := List.mem_of_getElem? hz
    have ixz : ∀ {l' ext : List Int} {O : Os} {t : Tys}, l' = l ++ ext → (q, OC.lst (l'.map fun i => rInt i)) ∈ O → t[5]? = some (some (rRef q)) → t[6]? = some (some (rInt at_)) → EvT t O (tOp (rIxL K) (tVar 5) (tVar 6)) (rInt z) := fun {l' ext O t} e hm e5 e6 =>
      ev_op (ev_var e5) (ev_var e6) (vo_ixO hm rfl (by rw [List.getElem?_map, pre_ext e hlt, hz]; rfl))
    let J : Nat → Nxt := fun i t2 O2 W2 => ∃ (l' ext : List Int) (o' : Option Rp), TInv V snk c f l' ∧ l' = l ++ ext ∧ (∀ (k : Nat) (y : Int), k < i → (nearOf n z)[k]? = some y → 0 < room c f y z → y ∈ l') ∧
      t2 = [some (rNear n), some (rPM c), some (rFl f fo), some (rTI snk), some (rRef p), some (rRef q), some (rInt at_), o', none] ∧ O2 = (q, .lst (l'.map fun i => rInt i)) :: (p, .dK (mTru l')) :: oFl f fo ∧ W2 = [q, p]
    refine hs_for (src_lst ((ev_dget2K (ev_var rfl) (.inl rfl) (ixz (l' := l) (ext := []) (by simp) List.mem_cons_self rfl rfl) (ev_lst ea_nil)).to near_rp)) J ⟨l, [], o, B, by simp, fun k y hk => absurd hk (Nat.not_lt_zero _), rfl, rfl, rfl⟩ ?_ ?_
    · rintro i R t2 O2 W2 hR ⟨l', ext, o', B', he, hd, rfl, rfl, rfl⟩
      rw [List.getElem?_map] at hR
      cases hy : (nearOf n z)[i]? with
      | none => rw [hy] at hR; cases hR
      | some y =>
        rw [hy] at hR
        cases hR
        have hyV : y ∈ V := h3 z y (List.mem_of_getElem? hy)
        have hbV' : l'.length ≤ V.length := nodup_len B'.nd B'.inV
        have hzm' : z ∈ l' := by rw [he]; exact List.mem_append_left _ hzm
        refine ⟨_, _, tg_name, ?_⟩
        refine ht_if (eb_and (eb_b ((ev_notInK (k := kI y) (ev_var rfl) (ev_var rfl) (.inr ⟨p, rfl, .inl (List.mem_cons_of_mem _ List.mem_cons_self)⟩)).to (R' := rBl (!decide (y ∈ l'))) (by rw [in_rp, ks_un]))) fun _ => eb_test (ev_op (ev_call ((c, f, fo), y, z) (ea_cons (ev_var rfl) (ea_cons (ev_var rfl) (ea_cons (ev_var rfl) (ea_cons (ixz he List.mem_cons_self rfl rfl) ea_nil)))) trivial (fun e he => List.mem_cons_of_mem _ (List.mem_cons_of_mem _ he))) ev_c vo_I0)) (fun ht => ?_) fun hf => ?_
        · rw [Bool.and_eq_true] at ht
          have hyn : y ∉ l' := by simpa using ht.1
          have hroom : 0 < room c f y z := of_decide_eq_true ht.2
          have hyn2 : y ∉ (un l').map (·.1) := by rw [show (un l').map (·.1) = l' from ks_un l']; exact hyn
          refine hs_of (O' := (q, .lst (l'.map fun i => rInt i)) :: (p, .dK (mTru (l' ++ [y]))) :: oFl f fo) (fun {Nx Rt} hn => ht_dputK (R := rBl true) (k := 1) (j := kI y) ev_c (ev_var rfl) (ev_var rfl) rfl (.inl (by simp)) (lineBig (by unfold mTru mI un; rw [List.length_map, List.length_map]; omega)) ?_) ?_
          · have e1 : pk (mTru l') (kI y) (rBl true) = mTru (l' ++ [y]) := by
              have := pk_mI (f := fun _ : Unit => rBl true) (a := ()) (l := un l') (k := y)
              rw [pk_out hyn2] at this
              rw [this]
              unfold mTru un
              rw [List.map_append]; rfl
            rw [e1]; exact hn
          · refine ht_append (k := 0) (R := rInt y) (ev_var rfl) (ev_var rfl) rfl (.inl (by simp)) (lineBig (by rw [List.length_map]; omega)) ⟨l' ++ [y], ext ++ [y], _, tinv_snoc B' hzm' hyn hyV hroom, by rw [he, List.append_assoc], fun k w hk hw hr => ?_, rfl, ?_, rfl⟩
            · by_cases e : k = i
              · subst e
                rw [hy] at hw; cases hw
                simp
              · exact List.mem_append_left _ (hd k w (by omega) hw hr)
            · rw [List.map_append]; rfl
        · refine ht_next ⟨l', ext, _, B', he, fun k w hk hw hr => ?_, rfl, rfl, rfl⟩
          by_cases e : k = i
          · subst e
            rw [hy] at hw; cases hw
            rw [Bool.and_eq_false_iff] at hf
            rcases hf with hf | hf
            · simpa using hf
            · have := of_decide_eq_false hf
              exact absurd hr this
          · exact hd k w (by omega) hw hr
    · rintro t2 O2 W2 ⟨l', ext, o', B', he, hd, rfl, rfl, rfl⟩
      have hl' : l'.length = l.length + ext.length := by rw [he, List.length_append]
      refine ht_set (i := 6) (ev_op (ev_var rfl) ev_c vo_I0) ⟨V.length - (at_ + 1), by omega, l', at_ + 1, o', B', fun j w hj hw y hy hr => ?_, by omega, rfl, rfl, rfl, rfl⟩
      by_cases e : j = at_
      · subst e
        rw [pre_ext he hlt, hz] at hw
        cases hw
        obtain ⟨k, hk, ek⟩ := List.mem_iff_getElem.mp hy
        exact hd k y (by simpa using hk) (by rw [List.getElem?_eq_getElem hk, ek]) hr
      · rw [pre_ext he (by omega)] at hw
        rw [he]
        exact List.mem_append_left _ (cl j w (by omega) hw y hy hr)
  · have hge : at_ = l.length := by
      have := of_decide_eq_false hc
      rw [List.length_map] at this; omega
    refine HT.freeze (p := p) (i := 4) (k := 1) (c := .dK (mTru l)) (rDK (mTru l)) rfl rfl (by simp) (fun o F hF hok => oc_dK p o F hF hok) ?_
    refine ht_ret (EvT.intro l ⟨B, fun w hw y hy hr => ?_⟩ (ev_var rfl)) rfl
    obtain ⟨j, hj, ej⟩ := List.mem_iff_getElem.mp hw
    exact cl j w (by omega) (by rw [List.getElem?_eq_getElem hj, ej]) y hy hr

theorem c_reaching (T : Tp K mg) : Kal P w K mg base 2 "reaching" ["near", "capacities", "flow", "sinks"] spReaching := by
  obtain ⟨⟨fd, F⟩, hm⟩ := T.at_ 17 "reaching" 35
  exact kal_of F hm (ok_reaching T F) (fun _ _ _ _ _ _ us hl => match us, hl with | [_, _, _, _], _ => rfl)
/-! ### ways -/
abbrev rPr (s : Int × Int) : Rp := rTup [rInt s.1, rInt s.2]
abbrev spWay : Sp := Prm (fun x : Bef × Int × (List Int × List Int × PM × PM) => [rBef x.1, rInt x.2.1]) (fun _ => []) (fun x => BInv x.2.2.1 x.2.2.2.1 x.2.2.2.2.1 x.2.2.2.2.2 x.1 ∧ x.2.1 ∈ ks x.1 ∧ x.1.length ≤ 1000) (fun x => rEx (fun st => Way x.1 x.2.1 st ∧ st.length ≤ 1000) fun st => rLst (st.map rPr))
theorem bef_at {b : Bef} {i : Nat} {x : Int} (h : (ks b)[i]? = some x) : ∃ o, b[i]? = some (x, o) := by
  rw [List.getElem?_map] at h
  cases hb : b[i]? with
  | none => rw [hb] at h; cases h
  | some e =>
    rw [hb] at h
    have : e.1 = x := Option.some.inj h
    exact ⟨e.2, by rw [← this]⟩
theorem ok_way_to (T : Tp K mg) {fd : FuncData} (F : FunD K "way_to" "way_to" (defArgs (top 36)) (defBody (top 36)) (defScope (top 36)) [] [] (He.ga K "way_to") fd) : FnOk P w K mg base CX0 1 (He.ga K "way_to") fd ["before", "goal"] spWay := by
  have sc : FnScope ["before", "goal", "found", "node"] ["before", "goal"] (defScope (top 36)) := ⟨rfl, rfl, rfl, by decide +kernel, rfl, by decide +kernel, by decide +kernel⟩
  refine fn_prm F sc (fun _ => rfl) (fun _ => by first | exact List.nodup_nil | exact nd_fl | simp) fun cdv A outer s H E hr => ?_
  have hu := hu_of hr
  refine ⟨_, (pss_cons (ps_par (i := 2) (j := 3) (by rfl) sc.nd rfl rfl (by decide) rfl rfl (pa_cons (pe_lst pa_nil) (pa_cons (pv 1) pa_nil)) (by rfl))
      (pss_cons (ps_while PassesOwn.never (pt_cmp (pc_notN (pe_dget hu (pv 0) (pv 3) (fun _ _ => rfl))) rfl) (pss_cons (ps_expr (pe_bm PySem.F.plainAttrs_list PySem.F.slot_list_append PySem.F.type_list_append mt_append (pv 2) (pa_cons (pe_tup (pa_cons (pe_dget hu (pv 0) (pv 3) (fun _ _ => rfl)) (pa_cons (pv 3) pa_nil))) pa_nil)))
      (pss_one (ps_set (i := 3) sc.nd rfl (Or.inl rfl) (pe_dget hu (pv 0) (pv 3) (fun _ _ => rfl))))))
      (pss_one (ps_ret (pe_revL (pv 2)))))), fun x hp => ?_⟩
  obtain ⟨b, goal, V, src, c, f⟩ := x
  obtain ⟨B, hg, hlen⟩ := hp
  have B : BInv V src c f b := B
  have hlen : b.length ≤ 1000 := hlen
  obtain ⟨i0, hi0, e0⟩ := List.mem_iff_getElem.mp hg
  refine hs_parNT (en_lst ea_nil) (fun p => ev_var rfl) (kk := fun p => ?_)
  let I : Nat → Nxt := fun m t1 O1 W1 => ∃ (st : List (Int × Int)) (x : Int), (ks b)[m]? = some x ∧ Chain x st goal ∧ (∀ s ∈ st, (s.2, some s.1) ∈ b) ∧ st.length + m ≤ i0 ∧
    t1 = [some (rBef b), some (rInt goal), some (rRef p), some (rInt x)] ∧ O1 = [(p, .lst (st.reverse.map rPr))] ∧ W1 = [p]
  refine hs_while I ⟨i0, [], goal, by rw [List.getElem?_eq_getElem hi0, e0], rfl, by simp, by simp, rfl, rfl, rfl⟩ ?_
  rintro m t1 O1 W1 ⟨st, x, hx, hc, hs, hl, rfl, rfl, rfl⟩
  obtain ⟨o, ho⟩ := bef_at hx
  have hk : lk b x = some o := lk_of_mem B.nd (List.mem_of_getElem? ho)
  have hi1 : i0 < b.length := by rw [← ks_len]; exact hi0
  have get : ∀ {O : Os} {t : Tys}, t[0]? = some (some (rBef b)) → t[3]? = some (some (rInt x)) → EvT t O (tDGet (tVar 0) (tVar 3)) (rOp o) := fun e1 e2 => ev_dgetK (k := kI x) (ev_var e1) (.inl rfl) (ev_var e2) (by rw [lk_mI, hk]; rfl)
  refine ⟨!decide (opV o = .non), eb_b (ev_notN (get rfl rfl)), fun ht => ?_, fun hf => ?_⟩
  · cases o with
    | none => simp [opV] at ht
    | some u =>
      obtain ⟨⟨j, hj, hu⟩, _⟩ := B.par m x u ho
      refine hs_of (O' := [(p, .lst (((u, x) :: st).reverse.map rPr))]) (fun {Nx Rt} hn => ht_append (k := 0) (R := rPr (u, x)) (ev_var rfl) (ev_tup (ea_cons (get rfl rfl) (ea_cons (ev_var rfl) ea_nil))) rfl (.inl (by simp)) (lineBig (by simp; omega)) ?_) ?_
      · rw [List.reverse_cons, List.map_append] at hn; exact hn
      · exact ht_set (i := 3) (get rfl rfl) ⟨j, hj, (u, x) :: st, u, hu, ⟨rfl, hc⟩, fun s h => by
          rcases List.mem_cons.mp h with rfl | h
          · exact List.mem_of_getElem? ho
          · exact hs s h, by simp; omega, rfl, rfl, rfl⟩
  · cases o with
    | some u => simp [opV] at hf
    | none =>
      refine HT.freeze (p := p) (i := 2) (k := 0) (c := .lst (st.reverse.map rPr)) (rLst (st.reverse.map rPr)) rfl rfl (by simp) (fun o F hF hok => oc_lst p o F hF hok) ?_
      refine ht_ret (EvT.intro st ⟨⟨⟨x, List.mem_of_getElem? ho, hc⟩, hs⟩, by omega⟩ ((ev_revL (ev_var rfl)).to ?_)) rfl
      rw [← List.map_reverse, List.reverse_reverse]
theorem c_way_to (T : Tp K mg) : Kal P w K mg base 1 "way_to" ["before", "goal"] spWay := by
  obtain ⟨⟨fd, F⟩, hm⟩ := T.at_ 18 "way_to" 36
  exact kal_of F hm (ok_way_to T F) (fun _ _ _ _ _ _ us hl => match us, hl with | [_, _], _ => rfl)
end
end K96
set_option Elab.async false
set_option linter.all false
set_option maxRecDepth 100000
set_option maxHeartbeats 4000000
/-! the flow grows -/
namespace K96
open PySem PySem.Spec L2 Rz Cut
section
variable {P : Program} {w : World} {K : PySem.W.Frag} {mg : Str → Option Value} {base : Heap}
theorem gt_at {l : PM} {u v a : Int} : lk (pk l (u, v) a) (u, v) = some a := by rw [lk_pk, if_pos rfl]
abbrev spPush : Sp := PrmM (fun (x : PM × List (Int × Int) × Int) p => [rRef p, rLst (x.2.1.map rPr), rInt x.2.2]) (fun x => .dT (mP fI x.1)) (fun _ => []) (fun x => x.1.length + 2 * x.2.1.length ≤ 90000) (fun x c => c = .dT (mP fI (pushed x.1 x.2.1 x.2.2))) (fun _ => rNon)
theorem put2_len {f : PM} {u v a : Int} : (put2 f u v a).length ≤ f.length + 2 := by
  unfold put2
  have h1 := pk_len (l := f) (k := (u, v)) (a := gt f u v + a)
  have h2 := pk_len (l := pk f (u, v) (gt f u v + a)) (k := (v, u)) (a := -(gt f u v + a))
  omega
theorem pushed_snoc {f : PM} {st : List (Int × Int)} {s : Int × Int} {a : Int} : pushed f (st ++ [s]) a = put2 (pushed f st a) s.1 s.2 a := by
  unfold pushed; rw [List.foldl_append]; rfl
theorem pushed_len {a : Int} : ∀ {st : List (Int × Int)} {f : PM}, (pushed f st a).length ≤ f.length + 2 * st.length
  | [], f => Nat.le_refl _
  | s :: st, f => by
    have h1 := pushed_len (a := a) (st := st) (f := put2 f s.1 s.2 a)
    have h2 := put2_len (f := f) (u := s.1) (v := s.2) (a := a)
    show (pushed (put2 f s.1 s.2 a) st a).length ≤ _
    rw [List.length_cons]; omega
theorem ok_push (T : Tp K mg) {fd : FuncData} (F : FunD K "push" "push" (defArgs (top 37)) (defBody (top 37)) (defScope (top 37)) [] [] (He.ga K "push") fd) : FnOk P w K mg base CX0 1 (He.ga K "push") fd ["flow", "steps", "amount"] spPush := by
  have sc : FnScope ["flow", "steps", "amount", "u", "v"] ["flow", "steps", "amount"] (defScope (top 37)) := ⟨rfl, rfl, rfl, by decide +kernel, rfl, by decide +kernel, by decide +kernel⟩
  refine fn_prmM F sc (fun _ _ => rfl) (fun _ => rfl) fun cdv A outer s H E hr => ?_
  have hu := hu_of hr
  refine ⟨_, (pss_one (ps_for PassesOwn.never rfl (pi_list (pv 1)) (pg_tup (n := 2) (by rfl) (pgs_cons (pg_name (i := 3) sc.nd rfl (Or.inl rfl)) (pgs_cons (pg_name (i := 4) sc.nd rfl (Or.inl rfl)) pgs_nil))) (pss_cons (ps_dput hu (pv 0) (pe_tup (pa_cons (pv 3) (pa_cons (pv 4) pa_nil))) (pe_op op_add (pe_dget2 hu (pv 0) (pe_tup (pa_cons (pv 3) (pa_cons (pv 4) pa_nil))) pe_int ⟨by rfl, by rfl, by rfl, by rfl⟩) (pv 2)) rfl)
      (pss_one (ps_dput hu (pv 0) (pe_tup (pa_cons (pv 4) (pa_cons (pv 3) pa_nil))) (pe_un un_neg (pe_dget hu (pv 0) (pe_tup (pa_cons (pv 3) (pa_cons (pv 4) pa_nil))) (fun _ _ => rfl))) rfl))))), fun x p hp nd => ?_⟩
  obtain ⟨f, st, a⟩ := x
  have hp : f.length + 2 * st.length ≤ 90000 := hp
  let I : Nat → Nxt := fun i t1 O1 W1 => ∃ (o1 o2 : Option Rp), t1 = [some (rRef p), some (rLst (st.map rPr)), some (rInt a), o1, o2] ∧ O1 = [(p, .dT (mP fI (pushed f (st.take i) a)))] ∧ W1 = []
  refine ht_for (src_lst (ev_var rfl)) I ⟨_, _, rfl, rfl, rfl⟩ ?_ ?_
  · rintro i R t1 O1 W1 hR ⟨o1, o2, rfl, rfl, rfl⟩
    rw [List.getElem?_map] at hR
    cases hs : st[i]? with
    | none => rw [hs] at hR; cases hR
    | some s =>
      rw [hs] at hR
      cases hR
      have hi : i < st.length := (List.getElem?_eq_some_iff.mp hs).1
      have hl : (pushed f (st.take i) a).length ≤ f.length + 2 * st.length := by
        have h1 := pushed_len (a := a) (st := st.take i) (f := f)
        have h2 : (st.take i).length ≤ st.length := by rw [List.length_take]; omega
        omega
      refine ⟨_, _, tg_two, ?_⟩
      generalize hg : pushed f (st.take i) a = g at hl
      have hg2 : pushed f (st.take (i + 1)) a = put2 g s.1 s.2 a := by rw [snoc_take hs, pushed_snoc, hg]
      refine hs_of (O' := [(p, .dT (mP fI (pk g (s.1, s.2) (gt g s.1 s.2 + a))))]) (fun {Nx Rt} hn => ht_dputT (R := rInt (gt g s.1 s.2 + a)) (k := 0) (j := kP (s.1, s.2)) (ev_op ((ev_dget2T (k := kP (s.1, s.2)) (ev_var rfl) (.inr ⟨p, rfl, .inl List.mem_cons_self⟩) (ev_kP (ev_var rfl) (ev_var rfl)) ev_c).to gt_rp) (ev_var rfl) vo_I0) (ev_var rfl) (ev_kP (ev_var rfl) (ev_var rfl)) rfl (.inr (by simp)) (lineBig (by unfold mP; rw [List.length_map]; omega)) ?_) ?_
      · rw [pk_mP (f := fI)]; exact hn
      · refine ht_dputT (R := rInt (-(gt g s.1 s.2 + a))) (k := 0) (j := kP (s.2, s.1)) (ev_un (ev_dgetT (k := kP (s.1, s.2)) (R := rInt (gt g s.1 s.2 + a)) (ev_var rfl) (.inr ⟨p, rfl, .inl List.mem_cons_self⟩) (ev_kP (ev_var rfl) (ev_var rfl)) (by rw [lk_mP, gt_at]; rfl)) vu_I) (ev_var rfl) (ev_kP (ev_var rfl) (ev_var rfl)) rfl (.inr (by simp)) (lineBig ?_) ⟨_, _, rfl, ?_, rfl⟩
        · unfold mP
          rw [List.length_map]
          have := pk_len (l := g) (k := (s.1, s.2)) (a := gt g s.1 s.2 + a)
          omega
        · rw [pk_mP (f := fI), hg2]; rfl
  · rintro t1 O1 W1 ⟨o1, o2, rfl, rfl, rfl⟩
    rw [List.length_map, List.take_length]
    exact ⟨rfl, _, rfl, by simp⟩
theorem c_push (T : Tp K mg) : Kal P w K mg base 1 "push" ["flow", "steps", "amount"] spPush := by
  obtain ⟨⟨fd, F⟩, hm⟩ := T.at_ 19 "push" 37
  exact kal_of F hm (ok_push T F) (fun _ _ _ _ _ _ us hl => match us, hl with | [_, _, _], _ => rfl)
/-! ### neighbours -/
/-- the dicts of neighbours, the newest ahead: a node, its dict, its neighbours -/
abbrev Dd := List (Int × Addr × List Int)
def inn (D : Dd) : Os := D.map fun d => (d.2.1, .dK (mTru d.2.2))
def fnd (D : Dd) : List (Key × Rp) := mI (fun q : Addr => rRef q) (D.reverse.map fun d => (d.1, d.2.1))
def oDd (D : Dd) (f : Addr) : Os := inn D ++ [(f, .dK (fnd D))]
def wDd (D : Dd) (f : Addr) : List Addr := D.map (·.2.1) ++ [f]
def nm (D : Dd) : Near := D.map fun d => (d.1, d.2.2)
structure DdOk (m : Nat) (D : Dd) : Prop where
  nd : (D.map (·.1)).Nodup
  len : D.length ≤ m
  each : ∀ d ∈ D, d.2.2.length ≤ m ∧ d.2.2.Nodup
theorem inn_len (D : Dd) : (inn D).length = D.length := List.length_map _
theorem fnd_at (D : Dd) (f : Addr) : (oDd D f)[D.length]? = some (f, .dK (fnd D)) := by
  unfold oDd
  rw [List.getElem?_append_right (by rw [inn_len]; exact Nat.le_refl _), inn_len, Nat.sub_self]; rfl
theorem ks_nm (D : Dd) : ks (nm D) = D.map (·.1) := by unfold nm ks; rw [List.map_map]; rfl
theorem lk_rev {α : Type} {l : List (Int × α)} {x : Int} (nd : (l.map (·.1)).Nodup) : lk l.reverse x = lk l x := by
  cases h : lk l x with
  | none =>
    rw [lk_none] at h ⊢
    rw [List.map_reverse, List.mem_reverse]; exact h
  | some a => exact lk_of_mem (by rw [List.map_reverse]; exact List.pairwise_reverse.mpr (nd.imp fun h => Ne.symm h)) (List.mem_reverse.mpr (lk_mem h))
theorem hs_addN {t : Tys} {Y : List Addr} {D : Dd} {f : Addr} {m : Nat} {u w : Int} {td ta tb tv : TE} {Nx : Nxt} {Rt : Rts} (ok : DdOk m D) (hm : m ≤ 10000) (hd : EvT t (oDd D f) td (rRef f)) (hu : EvT t (oDd D f) ta (rInt u)) (hw : ∀ O, EvT t O tb (rInt w)) (hv : EvT t (oDd D f) tv (rBl true))
    (h : ∀ D', DdOk (m + 1) D' → (∀ x y, y ∈ nearOf (nm D') x ↔ y ∈ nearOf (nm D) x ∨ (x = u ∧ y = w)) → Nx t (oDd D' f) (wDd D' f)) : HT Y t (oDd D f) (wDd D f) (sDPut (tDSetd td ta tDNewK) tb tv) Nx Rt := by
  have ndr : ((D.map fun d => (d.1, d.2.1)).map (·.1)).Nodup := by rw [List.map_map]; exact ok.nd
  have hlf : (fnd D).length < sizeLine := lineBig (by unfold fnd mI; rw [List.length_map, List.length_map, List.length_reverse]; have := ok.len; omega)
  have lkf : lk (fnd D) (kI u) = (lk (D.map fun d => (d.1, d.2.1)) u).map fun q => rRef q := by
    unfold fnd
    rw [lk_mI, List.map_reverse, lk_rev ndr]
  by_cases hin : u ∈ D.map (·.1)
  · obtain ⟨d, hdm, he⟩ := List.mem_map.mp hin
    obtain ⟨j, hj, ej⟩ := List.mem_iff_getElem.mp hdm
    obtain ⟨u', q, L⟩ := d
    have he : u' = u := he
    subst he
    have hDj : D[j]? = some (u', q, L) := by rw [List.getElem?_eq_getElem hj, ej]
    obtain ⟨hL1, hL2⟩ := ok.each _ hdm
    have hL1 : L.length ≤ m := hL1
    have hlkq : lk (D.map fun d => (d.1, d.2.1)) u' = some q := lk_of_mem ndr (List.mem_map.mpr ⟨_, hdm, rfl⟩)
    let L' := if w ∈ L then L else L ++ [w]
    have hpk : pk (mTru L) (kI w) (rBl true) = mTru L' := by
      have e1 := pk_mI (f := fun _ : Unit => rBl true) (a := ()) (l := un L) (k := w)
      rw [e1]
      unfold mTru
      congr 1
      by_cases hwL : w ∈ L
      · have : L' = L := if_pos hwL
        rw [this, pk_in (by rw [show (un L).map (·.1) = L from ks_un L]; exact hwL)]
        unfold un
        rw [List.map_map]
        exact List.map_congr_left fun x _ => by show (if x = w then (x, ()) else (x, ())) = _; split <;> rfl
      · have : L' = L ++ [w] := if_neg hwL
        rw [this, pk_out (by rw [show (un L).map (·.1) = L from ks_un L]; exact hwL)]
        unfold un; rw [List.map_append]; rfl
    have hoj : (oDd D f)[j]? = some (q, .dK (mTru L)) := by
      unfold oDd
      rw [List.getElem?_append_left (by rw [inn_len]; exact hj)]
      unfold inn
      rw [List.getElem?_map, hDj]; rfl
    refine ht_dsetd1 (k := D.length) (j := j) (u := kI u') (w := kI w) (r := fnd D) (rq := mTru L) (q := q) (R := rBl true) hd hu (hw _) hv (fnd_at D f) hlf (by rw [lkf, hlkq]; rfl) hoj (.inl ?_) (lineBig ?_) ?_
    · unfold wDd
      exact List.mem_append_left _ (List.mem_map.mpr ⟨_, hdm, rfl⟩)
    · unfold mTru mI un; rw [List.length_map, List.length_map]; omega
    · rw [hpk]
      have e1 : (oDd D f).set j (q, .dK (mTru L')) = oDd (D.set j (u', q, L')) f := by
        unfold oDd
        rw [List.set_append_left _ _ (by rw [inn_len]; exact hj)]
        congr 1
        · unfold inn; rw [List.map_set]
        · unfold fnd
          congr 4
          have e3 : (D.set j (u', q, L')).map (fun d => (d.1, d.2.1)) = D.map fun d => (d.1, d.2.1) := by
            rw [List.map_set]
            have : ((u', q, L').1, (u', q, L').2.1) = (fun d : Int × Addr × List Int => (d.1, d.2.1)) D[j] := by rw [ej]
            rw [this, ← List.map_set]
            simp
          rw [List.map_reverse, List.map_reverse, e3]
      have e2 : wDd (D.set j (u', q, L')) f = wDd D f := by
        unfold wDd
        congr 1
        rw [List.map_set]
        have : (u', q, L').2.1 = (fun d : Int × Addr × List Int => d.2.1) D[j] := by rw [ej]
        rw [this, ← List.map_set]
        simp
      have e4 : (D.set j (u', q, L')).map (·.1) = D.map (·.1) := by
        rw [List.map_set]
        have : (u', q, L').1 = (fun d : Int × Addr × List Int => d.1) D[j] := by rw [ej]
        rw [this, ← List.map_set]
        simp
      rw [e1, ← e2]
      refine h _ ⟨by rw [e4]; exact ok.nd, by rw [List.length_set]; exact Nat.le_succ_of_le ok.len, fun d hd => ?_⟩ fun x y => ?_
      · rcases List.mem_or_eq_of_mem_set hd with hd | rfl
        · exact ⟨Nat.le_succ_of_le (ok.each d hd).1, (ok.each d hd).2⟩
        · show L'.length ≤ m + 1 ∧ L'.Nodup
          by_cases hwL : w ∈ L
          · rw [show L' = L from if_pos hwL]; exact ⟨by omega, hL2⟩
          · rw [show L' = L ++ [w] from if_neg hwL]
            exact ⟨by simp; omega, List.nodup_append.mpr ⟨hL2, by simp, fun a ha b hb e => hwL (by rw [← List.mem_singleton.mp hb, ← e]; exact ha)⟩⟩
      · have e5 : nm (D.set j (u', q, L')) = (nm D).set j (u', L') := by unfold nm; rw [List.map_set]
        have hk : (nm D)[j]? = some (u', L) := by unfold nm; rw [List.getElem?_map, hDj]; rfl
        have hnk : ((nm D).map (·.1)).Nodup := by rw [show (nm D).map (·.1) = D.map (·.1) from ks_nm D]; exact ok.nd
        unfold nearOf
        rw [e5, lk_set hnk hk]
        by_cases hx : u' = x
        · subst hx
          rw [if_pos rfl, lk_of_mem hnk (List.mem_of_getElem? hk)]
          show y ∈ L' ↔ y ∈ L ∨ _
          by_cases hwL : w ∈ L
          · rw [show L' = L from if_pos hwL]
            exact ⟨.inl, fun h => h.elim id fun z => by rw [z.2]; exact hwL⟩
          · rw [show L' = L ++ [w] from if_neg hwL]
            simp
        · rw [if_neg hx]
          exact ⟨.inl, fun h => h.elim id fun z => absurd z.1.symm hx⟩
  · have hlkn : lk (D.map fun d => (d.1, d.2.1)) u = none := lk_none.mpr (by rw [List.map_map]; exact hin)
    refine ht_dsetd2 (k := D.length) (u := kI u) (w := kI w) (r := fnd D) (R := rBl true) hd hu (fun _ _ => hw _) hv (fnd_at D f) (.inl (by unfold wDd; simp)) hlf (by rw [lkf, hlkn]; rfl) fun q => ?_
    have e1 : ((q, OC.dK [(kI w, rBl true)]) :: (oDd D f).set D.length (f, .dK (pk (fnd D) (kI u) (rRef q)))) = oDd ((u, q, [w]) :: D) f := by
      have e2 : pk (fnd D) (kI u) (rRef q) = fnd ((u, q, [w]) :: D) := by
        have hn : u ∉ (D.reverse.map fun d => (d.1, d.2.1)).map (·.1) := by
          rw [List.map_map, List.map_reverse, List.mem_reverse]; exact hin
        unfold fnd
        rw [pk_mI, pk_out hn, List.reverse_cons, List.map_append]; rfl
      rw [e2]
      unfold oDd
      have e3 : (inn D ++ [(f, OC.dK (fnd D))]).set D.length (f, .dK (fnd ((u, q, [w]) :: D))) = inn D ++ [(f, .dK (fnd ((u, q, [w]) :: D)))] := by
        rw [List.set_append_right _ _ (by rw [inn_len]; exact Nat.le_refl _), inn_len, Nat.sub_self]; rfl
      rw [e3]; rfl
    rw [e1]
    refine h ((u, q, [w]) :: D) ⟨List.nodup_cons.mpr ⟨hin, ok.nd⟩, by rw [List.length_cons]; have := ok.len; omega, fun d hd => ?_⟩ fun x y => ?_
    · rcases List.mem_cons.mp hd with rfl | hd
      · exact ⟨by simp, by simp⟩
      · exact ⟨Nat.le_succ_of_le (ok.each d hd).1, (ok.each d hd).2⟩
    · unfold nearOf
      show y ∈ (lk ((u, [w]) :: nm D) x).getD [] ↔ _
      rw [lk_cons]
      by_cases hx : u = x
      · subst hx
        have h0 : lk (nm D) u = none := lk_none.mpr (by rw [show (nm D).map (·.1) = D.map (·.1) from ks_nm D]; exact hin)
        rw [if_pos rfl, h0]
        simp
      · rw [if_neg hx]
        exact ⟨.inl, fun h => h.elim id fun z => absurd z.1.symm hx⟩
theorem near_mem {n : Near} (nd : (ks n).Nodup) {x y : Int} : y ∈ nearOf n x ↔ ∃ L, (x, L) ∈ n ∧ y ∈ L := by
  unfold nearOf
  constructor
  · intro h
    cases hl : lk n x with
    | none => rw [hl] at h; cases h
    | some L => rw [hl] at h; exact ⟨L, lk_mem hl, h⟩
  · rintro ⟨L, h1, h2⟩
    rw [lk_of_mem nd h1]; exact h2
abbrev spNear : Sp := Prm (fun x : PM × List Int => [rPM x.1]) (fun _ => []) (fun x => x.1.length ≤ 1000 ∧ (∀ e ∈ x.1, e.1.1 ∈ x.2 ∧ e.1.2 ∈ x.2) ∧ x.2.length ≤ 60) (fun x => rEx (fun n => NearOk n x.1) rNear)
def prL (p : Int × Int) : List Int := [p.1, p.2]
theorem ok_near_nodes (T : Tp K mg) {fd : FuncData} (F : FunD K "near_nodes" "near_nodes" (defArgs (top 32)) (defBody (top 32)) (defScope (top 32)) [] [] (He.ga K "near_nodes") fd) : FnOk P w K mg base CX0 1 (He.ga K "near_nodes") fd ["capacities"] spNear := by
  have sc : FnScope ["capacities", "found", "u", "v", "node", "others"] ["capacities"] (defScope (top 32)) := ⟨rfl, rfl, rfl, by decide +kernel, rfl, by decide +kernel, by decide +kernel⟩
  refine fn_prm F sc (fun _ => rfl) (fun _ => by first | exact List.nodup_nil | exact nd_fl | simp) fun cdv A outer s H E hr => ?_
  have hu := hu_of hr
  refine ⟨_, (pss_cons (ps_set (i := 1) sc.nd rfl (Or.inl rfl) pe_dnewK)
      (pss_cons (ps_for PassesOwn.never rfl (pi_list (pe_callB (cr_sortedDT (by rfl)) (by rfl) T.sorted boot_sorted (pa_cons (pv 0) pa_nil))) (pg_tup (n := 2) (by rfl) (pgs_cons (pg_name (i := 2) sc.nd rfl (Or.inl rfl)) (pgs_cons (pg_name (i := 3) sc.nd rfl (Or.inl rfl)) pgs_nil))) (pss_cons (ps_dput hu (pe_dsetd (pv 1) (pv 2) pe_dnewK ⟨by rfl, by rfl, by rfl, by rfl⟩) (pv 3) pe_bl rfl)
      (pss_one (ps_dput hu (pe_dsetd (pv 1) (pv 3) pe_dnewK ⟨by rfl, by rfl, by rfl, by rfl⟩) (pv 2) pe_bl rfl))))
      (pss_one (ps_ret (pe_lock (pe_dc (own := [("node", 4), ("others", 5)]) (by rfl) sc.nd (pi_items (pv 1)) (blkOk_by (by kernel_rfl)) (fun _ _ _ _ _ => (pg_tupK K (n := 2) (by rfl) (pgs_cons (pg_name (i := 4) sc.nd rfl (Or.inl rfl)) (pgs_cons (pg_name (i := 5) sc.nd rfl (Or.inl rfl)) pgs_nil)))) (fun _ _ _ _ _ => pts_nil) (fun _ _ _ _ _ => (pv 4)) (fun _ _ _ _ _ => (pe_callB (call_sortedDI (by rfl)) (by rfl) T.sorted boot_sorted (pa_cons (pv 5) pa_nil))))))))), fun x hp => ?_⟩
  obtain ⟨c, V⟩ := x
  obtain ⟨hp, hV1, hV2⟩ := hp
  have hp : c.length ≤ 1000 := hp
  have hV2 : V.length ≤ 60 := hV2
  refine hs_setN en_dK (k := fun f => ?_)
  let I : List (List Int) → Nat → Nxt := fun mss i t1 O1 W1 => ∃ (D : Dd) (o1 o2 : Option Rp), DdOk (2 * i) D ∧ (∀ x y, y ∈ nearOf (nm D) x ↔ ([x, y] ∈ mss.take i ∨ [y, x] ∈ mss.take i)) ∧ t1 = [some (rPM c), some (rRef f), o1, o2, none, none] ∧ O1 = oDd D f ∧ W1 = wDd D f
  have hkeys : (mP fI c).map (·.1) = (c.map fun e => prL e.1).map (·.map Sum.inl) := by
    unfold mP
    rw [List.map_map, List.map_map]; rfl
  refine hs_forE (src_lstE (ev_cb (ea_cons (ev_var rfl) ea_nil) (vc_sortedDT (nss := c.map fun e => prL e.1) (.inl rfl) hkeys (fun ns h => by
    obtain ⟨e, _, rfl⟩ := List.mem_map.mp h
    simp [prL])))) I (fun z hz => ⟨[], _, _, ⟨List.nodup_nil, Nat.le_refl _, by simp⟩, fun x y => by simp [nm, nearOf, lk_nil], rfl, rfl, rfl⟩) ?_ ?_
  · rintro mss i R t1 O1 W1 hz hR ⟨D, o1, o2, ok, hn, rfl, rfl, rfl⟩
    rw [List.getElem?_map] at hR
    cases hms : mss[i]? with
    | none => rw [hms] at hR; cases hR
    | some ns =>
      rw [hms] at hR
      cases hR
      have hmem : ns ∈ c.map fun e => prL e.1 := hz.1.mem_iff.mp (List.mem_of_getElem? hms)
      obtain ⟨e, _, rfl⟩ := List.mem_map.mp hmem
      have hi : i < mss.length := (List.getElem?_eq_some_iff.mp hms).1
      have hl : mss.length = c.length := by rw [hz.1.length_eq, List.length_map]
      refine ⟨_, _, tg_two (Ra := rInt e.1.1) (Rb := rInt e.1.2), ?_⟩
      refine ht_seq (Nx := fun t2 O2 W2 => ∃ D', DdOk (2 * i + 1) D' ∧ (∀ x y, y ∈ nearOf (nm D') x ↔ y ∈ nearOf (nm D) x ∨ (x = e.1.1 ∧ y = e.1.2)) ∧ t2 = [some (rPM c), some (rRef f), some (rInt e.1.1), some (rInt e.1.2), none, none] ∧ O2 = oDd D' f ∧ W2 = wDd D' f)
        (hs_addN (u := e.1.1) (w := e.1.2) ok (by omega) (ev_var rfl) (ev_var rfl) (fun _ => ev_var rfl) ev_c fun D' ok' hn' => ⟨D', ok', hn', rfl, rfl, rfl⟩) ?_
      rintro t2 O2 W2 ⟨D1, ok1, hn1, rfl, rfl, rfl⟩
      refine hs_addN (u := e.1.2) (w := e.1.1) ok1 (by omega) (ev_var rfl) (ev_var rfl) (fun _ => ev_var rfl) ev_c fun D2 ok2 hn2 => ⟨D2, _, _, by rw [show 2 * (i + 1) = 2 * i + 1 + 1 by omega]; exact ok2, fun x y => ?_, rfl, rfl, rfl⟩
      rw [hn2, hn1, hn, snoc_take hms, List.mem_append, List.mem_append, List.mem_singleton, List.mem_singleton]
      have e1 : [x, y] = prL e.1 ↔ x = e.1.1 ∧ y = e.1.2 := by unfold prL; simp
      have e2 : [y, x] = prL e.1 ↔ x = e.1.2 ∧ y = e.1.1 := by unfold prL; simp; exact And.comm
      rw [e1, e2]
      constructor
      · rintro ((h | h) | h)
        · rcases h with h | h
          · exact .inl (.inl h)
          · exact .inr (.inl h)
        · exact .inl (.inr h)
        · exact .inr (.inr h)
      · rintro ((h | h) | (h | h))
        · exact .inl (.inl (.inl h))
        · exact .inl (.inr h)
        · exact .inl (.inl (.inr h))
        · exact .inr h
  · rintro mss t1 O1 W1 hz ⟨D, o1, o2, ok, hn, rfl, rfl, rfl⟩
    rw [List.length_map, List.take_length] at hn
    rw [List.length_map] at ok
    have hl : mss.length = c.length := by rw [hz.1.length_eq, List.length_map]
    refine HT.nd fun nd => ?_
    have hok : NearOk (nm D) c := fun x y => by
      rw [hn]
      have key : ∀ a b : Int, [a, b] ∈ mss ↔ (a, b) ∈ c.map (·.1) := fun a b => by
        rw [hz.1.mem_iff, List.mem_map, List.mem_map]
        constructor
        · rintro ⟨e, h1, h2⟩
          unfold prL at h2
          injection h2 with h3 h4
          injection h4 with h4 _
          exact ⟨e, h1, Prod.ext h3 h4⟩
        · rintro ⟨e, h1, h2⟩
          exact ⟨e, h1, by rw [h2]; rfl⟩
      rw [key, key]
    have nk : (ks (nm D)).Nodup := by rw [ks_nm]; exact ok.nd
    have short : ∀ d ∈ D, d.2.2.length < 64 := fun d hd => by
      have : d.2.2.length ≤ V.length := nodup_len (ok.each d hd).2 fun y hy => by
        have h1 := (hok d.1 y).mp ((near_mem nk).mpr ⟨d.2.2, List.mem_map.mpr ⟨d, hd, rfl⟩, hy⟩)
        rcases h1 with h1 | h1
        · obtain ⟨e, h2, h3⟩ := List.mem_map.mp h1
          have := (hV1 e h2).2
          rw [h3] at this; exact this
        · obtain ⟨e, h2, h3⟩ := List.mem_map.mp h1
          have := (hV1 e h2).1
          rw [h3] at this; exact this
      omega
    have eO : ∀ c' : OC, (oDd D f).set D.length (f, c') = inn D ++ [(f, c')] := fun c' => by
      unfold oDd
      rw [List.set_append_right _ _ (by rw [inn_len]; exact Nat.le_refl _), inn_len, Nat.sub_self]; rfl
    refine ht_ret (R := rEx (fun n => NearOk n c) rNear) (EvT.sub (R := rDK (D.reverse.map fun d => (kI d.1, rEx (Rise d.2.2) fun L => rLI L))) (ev_lockK (k := D.length) nd (fnd_at D f) fun od l => ?_) fun v G hv => ?_) rfl
    · rw [eO]
      have hsrc : SrcW [(f, OC.lkK od l (fnd D))] [some (rPM c), some (rRef f), o1, o2, none, none] (inn D ++ [(f, OC.lkK od l (fnd D))]) (iItems (tVar 1)) (D.reverse.map fun d => rTup [rKey (kI d.1), rRef d.2.1]) := by
        have h1 := src_itemsK (t := [some (rPM c), some (rRef f), o1, o2, none, none]) (O := inn D ++ [(f, OC.lkK od l (fnd D))]) (p := f) (od := od) (l := l) (r := fnd D) (ev_var (i := 1) rfl) (by simp)
        have e2 : (fnd D).map (fun e => rTup [rKey e.1, e.2]) = D.reverse.map fun d => rTup [rKey (kI d.1), rRef d.2.1] := by
          unfold fnd mI
          rw [List.map_map, List.map_map]; rfl
        rw [e2] at h1
        exact h1
      have e1 : pkAll [] (D.reverse.map fun d => (kI d.1, rEx (Rise d.2.2) fun L => rLI L)) = D.reverse.map fun d => (kI d.1, rEx (Rise d.2.2) fun L => rLI L) := by
        rw [pkAll_nd]
        · rfl
        · rw [List.nil_append, List.map_map, List.map_reverse]
          refine List.pairwise_reverse.mpr ?_
          show (D.map fun d => kI d.1).Pairwise _
          rw [show (D.map fun d => kI d.1) = (D.map (·.1)).map kI by rw [List.map_map]; rfl]
          exact List.Pairwise.map _ (fun a b hab e => hab (kI_inj _ _ e).symm) ok.nd
      rw [← e1]
      refine ev_new (en_dcK (k := fun d => kI d.1) (r := fun d : Int × Addr × List Int => rEx (Rise d.2.2) fun L => rLI L) hsrc (by simp) (lineBig' (by rw [List.length_reverse]; have := ok.len; omega)) fun d hd => ⟨_, _, tg_two, by simp, ev_var rfl, ?_⟩) oc_dK
      have hd : d ∈ D := List.mem_reverse.mp hd
      exact ev_cb (ea_cons (ev_var rfl) ea_nil) (vc_sortedDI (.inr ⟨d.2.1, rfl, .inl (List.mem_append_left _ (List.mem_map.mpr ⟨d, hd, rfl⟩))⟩) (by
        unfold mTru mI un
        rw [List.map_map, List.map_map]; rfl) (short d hd))
    · obtain ⟨a, l, rfl, h1, h2⟩ := hv
      obtain ⟨ys, h3, h4, h5⟩ := allK_ex (kf := fun d : Int × Addr × List Int => kI d.1) (Pf := fun d L => Rise d.2.2 L) (R := fun L => rLI L) h2
      refine ⟨ys.map fun y => (y.1.1, y.2), fun x y => ?_, a, l, rfl, h1, ?_⟩
      · rw [← hok x y]
        have hk2 : ks (ys.map fun y => (y.1.1, y.2)) = (D.map (·.1)).reverse := by
          rw [← List.map_reverse, ← h3, List.map_map]
          unfold ks
          rw [List.map_map]; rfl
        have nk2 : (ks (ys.map fun y => (y.1.1, y.2))).Nodup := by
          rw [hk2]; exact List.pairwise_reverse.mpr (ok.nd.imp fun h => Ne.symm h)
        rw [near_mem nk2, near_mem nk]
        constructor
        · rintro ⟨L, hL, hy⟩
          obtain ⟨z, hz1, hz2⟩ := List.mem_map.mp hL
          have hzx := congrArg Prod.fst hz2
          have hzL := congrArg Prod.snd hz2
          have hd : z.1 ∈ D := by
            have : z.1 ∈ D.reverse := by rw [← h3]; exact List.mem_map.mpr ⟨z, hz1, rfl⟩
            exact List.mem_reverse.mp this
          refine ⟨z.1.2.2, List.mem_map.mpr ⟨z.1, hd, Prod.ext hzx rfl⟩, ?_⟩
          have h6 : z.2 = L := hzL
          rw [← h6] at hy
          exact (h4 z hz1).1.mem_iff.mp hy
        · rintro ⟨L, hL, hy⟩
          obtain ⟨d, hd, e⟩ := List.mem_map.mp hL
          have : d ∈ ys.map (·.1) := by rw [h3]; exact List.mem_reverse.mpr hd
          obtain ⟨z, hz1, hz2⟩ := List.mem_map.mp this
          refine ⟨z.2, List.mem_map.mpr ⟨z, hz1, ?_⟩, ?_⟩
          · have := congrArg Prod.fst e
            rw [hz2]; exact Prod.ext this rfl
          · have hdL : d.2.2 = L := congrArg Prod.snd e
            have := h4 z hz1
            rw [hz2, hdL] at this
            exact this.1.mem_iff.mpr hy
      · unfold mI
        rw [List.map_map]; exact h5
theorem c_near_nodes (T : Tp K mg) : Kal P w K mg base 1 "near_nodes" ["capacities"] spNear := by
  obtain ⟨⟨fd, F⟩, hm⟩ := T.at_ 14 "near_nodes" 32
  exact kal_of F hm (ok_near_nodes T F) (fun _ _ _ _ _ _ us hl => match us, hl with | [_], _ => rfl)
end
end K96
set_option Elab.async false
set_option linter.all false
set_option maxRecDepth 100000
set_option maxHeartbeats 4000000
/-! the greatest flow -/
namespace K96
open PySem PySem.Spec L2 Rz Cut
section
variable {P : Program} {w : World} {K : PySem.W.Frag} {mg : Str → Option Value} {base : Heap}
/-- capacities, where it starts, where it ends, all nodes -/
abbrev ArgG := PM × List Int × List Int × List Int
structure PreG (x : ArgG) : Prop where
  ndV : x.2.2.2.Nodup
  lenV : x.2.2.2.length ≤ 60
  nds : x.2.1.Nodup
  ndt : x.2.2.1.Nodup
  sV : ∀ y ∈ x.2.1, y ∈ x.2.2.2
  tV : ∀ y ∈ x.2.2.1, y ∈ x.2.2.2
  dj : ∀ y ∈ x.2.1, y ∉ x.2.2.1
  cV : ∀ e ∈ x.1, e.1.1 ∈ x.2.2.2 ∧ e.1.2 ∈ x.2.2.2
  pos : ∀ e ∈ x.1, 1 ≤ e.2
  len : x.1.length ≤ 1000
structure Done (x : ArgG) (f : PM) : Prop where
  flow : Flow x.2.2.2 x.2.1 x.2.2.1 x.1 f
  keys : Keys x.2.2.2 f
  full : ∃ n b, NearOk n x.1 ∧ Reach x.2.2.2 x.2.1 n x.1 f b ∧ ∀ y ∈ x.2.2.1, y ∉ ks b
theorem near_in {n : Near} {c : PM} {V : List Int} (hn : NearOk n c) (hc : ∀ e ∈ c, e.1.1 ∈ V ∧ e.1.2 ∈ V) : ∀ z, ∀ y ∈ nearOf n z, y ∈ V := fun z y hy => by
  rcases (hn z y).mp hy with h | h
  · obtain ⟨e, h1, h2⟩ := List.mem_map.mp h
    have := (hc e h1).2
    rw [h2] at this; exact this
  · obtain ⟨e, h1, h2⟩ := List.mem_map.mp h
    have := (hc e h1).1
    rw [h2] at this; exact this
abbrev spGrown : Sp := PrmN (fun x : ArgG => [rPM x.1, rTI x.2.1, rTI x.2.2.1]) (fun _ => []) PreG (fun x c => ∃ f, Done x f ∧ c = .dT (mP fI f))
theorem wayItems {v : V} {G : Hp} {gs : List Int} {Pst : Int → List (Int × Int) → Prop} (h : (rLst (gs.map fun g => rTup [rEx (Pst g) fun st => rInt ((st.map rPr).length : Nat), rInt g])).p v G) : (rEx (fun nss : List (List Int) => nss.length = gs.length ∧ ∀ ns ∈ nss, ∃ l g, ns = [l, g] ∧ g ∈ gs) fun nss => rLst (nss.map rTI)).p v G := by
  obtain ⟨a, vs, rfl, h1, h2⟩ := h
  have key : ∀ {vs : List V} {gs : List Int}, All2 vs (gs.map fun g => rTup [rEx (Pst g) fun st => rInt ((st.map rPr).length : Nat), rInt g]) G → ∃ nss : List (List Int), nss.length = gs.length ∧ (∀ ns ∈ nss, ∃ l g, ns = [l, g] ∧ g ∈ gs) ∧ All2 vs (nss.map rTI) G := by
    intro vs
    induction vs with
    | nil =>
      intro gs h
      match gs, h with
      | [], _ => exact ⟨[], rfl, by simp, trivial⟩
    | cons v vs ih =>
      intro gs h
      match gs, h with
      | g :: gs, h =>
        obtain ⟨nss, e1, e2, e3⟩ := ih h.2
        obtain ⟨b, us, rfl, hb, hus⟩ := h.1
        match us, hus with
        | [u1, u2], hus =>
          obtain ⟨⟨st, _, hu1⟩, hu2, _⟩ := hus
          have hu1 : u1 = .int ((st.map rPr).length : Nat) := hu1
          have hu2 : u2 = .int g := hu2
          subst hu1 hu2
          refine ⟨[((st.map rPr).length : Nat), g] :: nss, by simp [e1], fun ns hns => ?_, ⟨b, _, rfl, hb, rfl, rfl, trivial⟩, e3⟩
          rcases List.mem_cons.mp hns with rfl | hns
          · exact ⟨_, g, rfl, List.mem_cons_self⟩
          · obtain ⟨l, g', h3, h4⟩ := e2 ns hns
            exact ⟨l, g', h3, List.mem_cons_of_mem _ h4⟩
  obtain ⟨nss, e1, e2, e3⟩ := key h2
  exact ⟨nss, ⟨e1, e2⟩, a, vs, rfl, h1, e3⟩
theorem ok_grown_flow (T : Tp K mg) {fd : FuncData} (F : FunD K "grown_flow" "grown_flow" (defArgs (top 38)) (defBody (top 38)) (defScope (top 38)) [] [] (He.ga K "grown_flow") fd) : FnOk P w K mg base CX0 3 (He.ga K "grown_flow") fd ["capacities", "sources", "sinks"] spGrown := by
  have sc : FnScope ["capacities", "sources", "sinks", "near", "flow", "before", "goals", "ways", "steps", "goal", "node", "u", "v"] ["capacities", "sources", "sinks"] (defScope (top 38)) := ⟨rfl, rfl, rfl, by decide +kernel, rfl, by decide +kernel, by decide +kernel⟩
  have c_near_nodes := c_near_nodes (P := P) (w := w) (base := base) T
  have c_reached_from := c_reached_from (P := P) (w := w) (base := base) T
  have c_way_to := c_way_to (P := P) (w := w) (base := base) T
  have c_push := c_push (P := P) (w := w) (base := base) T
  have c_room_left := c_room_left (P := P) (w := w) (base := base) T
  refine fn_prmN F sc (fun _ => rfl) (fun _ => by first | exact List.nodup_nil | exact nd_fl | simp) fun cdv A outer s H E hr => ?_
  have hu := hu_of hr
  refine ⟨_, (pss_cons (ps_asg (pe_tup (pa_cons (pe_k c_near_nodes hr (by decide) (by rfl) (pa_cons (pv 0) pa_nil)) (pa_cons pe_dnewT pa_nil))) (pg_tup (n := 2) (by rfl) (pgs_cons (pg_name (i := 3) sc.nd rfl (Or.inl rfl)) (pgs_cons (pg_name (i := 4) sc.nd rfl (Or.inr rfl)) pgs_nil))))
      (pss_one (ps_while PassesOwn.never (pt_val pe_bl) (pss_cons (ps_set (i := 5) sc.nd rfl (Or.inr rfl) (pe_k c_reached_from hr (by decide) (by rfl) (pa_cons (pv 3) (pa_cons (pv 0) (pa_cons (pv 4) (pa_cons (pv 1) pa_nil))))))
      (pss_cons (ps_setLc (i := 6) (own := [("node", 10)]) (by rfl) sc.nd rfl rfl (sw_true rfl rfl rfl (by decide +kernel)) (pi_tup (pv 2)) (blkOk_by (by kernel_rfl)) (fun _ _ _ _ _ => (pg_name (i := 10) sc.nd rfl (Or.inl rfl))) (fun _ _ _ _ _ => (pts_one (pt_cmp (pc_din hu (pv 10) (pv 5)) rfl))) (fun _ _ _ _ _ => (pv 10)))
      (pss_cons (ps_if (pt_cmpR (op_eqD hr.units) (pv 6) (pe_lst pa_nil) (nomark _)) (pss_one (ps_ret (pv 4))) pss_nil)
      (pss_cons (ps_set (i := 7) sc.nd rfl (Or.inl rfl) (pe_callB (cr_sortedLx K) (by rfl) T.sorted boot_sorted (pa_cons (pe_lc (own := [("goal", 9)]) (by rfl) sc.nd (pi_list (pv 6)) (blkOk_by (by kernel_rfl)) (fun _ _ _ _ _ => (pg_name (i := 9) sc.nd rfl (Or.inl rfl))) (fun _ _ _ _ _ => pts_nil) (fun _ _ _ _ _ => (pe_tup (pa_cons (pe_callB (lenK K) (by rfl) T.len PySem.boot_len (pa_cons (pe_k c_way_to hr (by decide) (by rfl) (pa_cons (pv 5) (pa_cons (pv 9) pa_nil))) pa_nil)) (pa_cons (pv 9) pa_nil))))) pa_nil)))
      (pss_cons (ps_set (i := 8) sc.nd rfl (Or.inl rfl) (pe_k c_way_to hr (by decide) (by rfl) (pa_cons (pv 5) (pa_cons (pe_ix ix_tup (pe_ix ix_list (pv 7) pe_int (fun _ _ => rfl)) pe_int (fun _ _ => rfl)) pa_nil))))
      (pss_one (ps_expr (pe_k c_push hr (by decide) (by rfl) (pa_cons (pv 4) (pa_cons (pv 8) (pa_cons (pe_callB (cr_min rfl) (by rfl) T.min boot_min (pa_cons (pe_lc (own := [("u", 11), ("v", 12)]) (by rfl) sc.nd (pi_list (pv 8)) (blkOk_by (by kernel_rfl)) (fun _ _ _ _ _ => (pg_tupK K (n := 2) (by rfl) (pgs_cons (pg_name (i := 11) sc.nd rfl (Or.inl rfl)) (pgs_cons (pg_name (i := 12) sc.nd rfl (Or.inl rfl)) pgs_nil)))) (fun _ _ _ _ _ => pts_nil) (fun _ _ _ _ _ => (pe_k c_room_left hr (by decide) (by rfl) (pa_cons (pv 0) (pa_cons (pv 4) (pa_cons (pv 11) (pa_cons (pv 12) pa_nil))))))) pa_nil)) pa_nil)))))))))))))), fun x hp => ?_⟩
  obtain ⟨c, src, snk, V⟩ := x
  obtain ⟨ndV, lenV, nds, ndt, sV, tV, dj, cV, pos, len⟩ := hp
  have ndV : V.Nodup := ndV
  have lenV : V.length ≤ 60 := lenV
  have lens : snk.length ≤ 1000 := Nat.le_trans (nodup_len ndt tV) (Nat.le_trans lenV (by decide))
  refine hs_tupTN (ev_call (c, V) (ea_cons (ev_var rfl) ea_nil) ⟨len, cV, lenV⟩) en_dT (kk := fun n p hn => ?_)
  let bd : Int := cutV V c fun y => decide (y ∈ src)
  have pts : Parts V src snk fun y => decide (y ∈ src) := ⟨fun y _ h => decide_eq_true h, fun y _ h => decide_eq_false fun z => dj y z h⟩
  let I : Nat → Nxt := fun m t1 O1 W1 => ∃ (f : PM) (o1 o2 o3 o4 : Option Rp), Flow V src snk c f ∧ Keys V f ∧ m = (bd - val V src f).toNat ∧ t1 = [some (rPM c), some (rTI src), some (rTI snk), some (rNear n), some (rRef p), o1, o2, o3, o4, none, none, none, none] ∧ O1 = [(p, .dT (mP fI f))] ∧ W1 = [p]
  refine ht_while I ⟨_, [], _, _, _, _, flow0 pos, ⟨List.nodup_nil, by simp⟩, rfl, rfl, rfl, rfl⟩ ?_
  rintro m t1 O1 W1 ⟨f, o1, o2, o3, o4, F, hK, rfl, rfl, rfl, rfl⟩
  refine ⟨true, eb_b ev_c, fun _ => ?_, fun h => by cases h⟩
  refine hs_setE (ev_call (n, c, f, some p, src, V) (ea_cons (ev_var rfl) (ea_cons (ev_var rfl) (ea_cons (ev_var rfl) (ea_cons (ev_var rfl) ea_nil)))) ⟨nds, sV, near_in hn cV, Nat.le_trans lenV (by decide)⟩ (fun e he => he)) fun b R => ?_
  have R : Reach V src n c f b := R
  have lenb : b.length ≤ 1000 := by
    have : (ks b).length ≤ V.length := nodup_len R.nd R.inV
    rw [ks_len] at this; omega
  refine hs_set (ev_lc (c := fun y => decide (y ∈ ks b)) (src_tup (ev_var rfl)) (small lens) fun y _ => ⟨_, _, tg_name, by simp, eb_b ((ev_inK (k := kI y) (ev_var rfl) (ev_var rfl) (.inl rfl)).to (R' := rBl (decide (y ∈ ks b))) (by rw [in_rp])), fun _ => ev_var rfl⟩) ?_
  generalize hgs : snk.filter (fun y => decide (y ∈ ks b)) = gs
  have gmem : ∀ g ∈ gs, g ∈ snk ∧ g ∈ ks b := fun g hg => by
    rw [← hgs] at hg
    exact ⟨(List.mem_filter.mp hg).1, of_decide_eq_true (List.mem_filter.mp hg).2⟩
  refine hs_ifRet (eb_test (ev_op (ev_var rfl) (ev_lst ea_nil) (vo_eqL (ns := gs) (ms := [])))) (fun hc => ?_) fun hc => ?_
  · have hc : gs = [] := of_decide_eq_true hc
    refine ht_ret (R := rRef p) (ev_var rfl) ⟨p, _, rfl, ⟨f, ⟨F, hK, n, b, hn, R, fun y hy hyb => ?_⟩, rfl⟩, List.mem_cons_self, List.mem_cons_self⟩
    have : y ∈ gs := by rw [← hgs]; exact List.mem_filter.mpr ⟨hy, decide_eq_true hyb⟩
    rw [hc] at this; cases this
  · have hc : gs ≠ [] := of_decide_eq_false hc
    have lengs : gs.length ≤ 1000 := by rw [← hgs]; exact Nat.le_trans (List.length_filter_le _ _) lens
    refine hs_setE (P := fun mss : List (List Int) => mss ≠ [] ∧ ∀ ns ∈ mss, ∃ l g, ns = [l, g] ∧ g ∈ gs) (Rb := fun mss => rLst (mss.map rTI)) ?_ fun mss hm => ?_
    · refine EvT.sub (R := rEx (fun nss : List (List Int) => nss.length = gs.length ∧ ∀ ns ∈ nss, ∃ l g, ns = [l, g] ∧ g ∈ gs) fun nss => rEx (Lex nss) fun mss => rLst (mss.map rTI)) ?_ fun v G ⟨nss, ⟨h1, h2⟩, mss, h3, hv⟩ => ⟨mss, ⟨fun e => ?_, fun ns hns => h2 ns (h3.1.mem_iff.mp hns)⟩, hv⟩
      · refine ev_cb (ea_cons (EvT.sub (ev_lc0 (src_lst (ev_var rfl)) (small lengs) fun g hg => ⟨_, _, tg_name, by simp, ev_tup (ea_cons (ev_cb (ea_cons (ev_call (b, g, V, src, c, f) (ea_cons (ev_var rfl) (ea_cons (ev_var rfl) ea_nil)) ⟨R.toBInv, (gmem g hg).2, lenb⟩) ea_nil) (VC.ex fun st _ => vc_lenL)) (ea_cons (ev_var rfl) ea_nil))⟩) fun v G hv => wayItems hv) ea_nil) (VC.ex fun nss hnss => vc_sortedLx fun ns hns => by
          obtain ⟨l, g, e, _⟩ := hnss.2 ns hns
          rw [e]; simp)
      · have h4 := h3.1.length_eq
        rw [e, h1] at h4
        exact hc (List.eq_nil_of_length_eq_zero h4.symm)
    · obtain ⟨hm1, hm2⟩ := hm
      obtain ⟨ns0, rest, rfl⟩ : ∃ a r, mss = a :: r := by
        cases mss with
        | nil => exact absurd rfl hm1
        | cons a r => exact ⟨a, r, rfl⟩
      obtain ⟨l, g, rfl, hg⟩ := hm2 ns0 List.mem_cons_self
      obtain ⟨hg1, hg2⟩ := gmem g hg
      refine hs_setE (ev_call (b, g, V, src, c, f) (ea_cons (ev_var rfl) (ea_cons (ev_op (ev_op (ev_var rfl) ev_c (vo_ixL (j := 0) (R := rTI [l, g]) rfl rfl)) ev_c (vo_ixT (j := 1) (R := rInt g) rfl rfl)) ea_nil)) ⟨R.toBInv, hg2, lenb⟩) fun st hst => ?_
      obtain ⟨W, hst2⟩ := hst
      have W : Way b g st := W
      have stne : st ≠ [] := fun e => by
        obtain ⟨r, h1, h2⟩ := W.chain
        rw [e] at h2
        have h2 : r = g := h2
        exact dj r (R.root r h1) (by rw [h2]; exact hg1)
      have stV : ∀ s ∈ st, s.1 ∈ V ∧ s.2 ∈ V := fun s hs => by
        obtain ⟨i, hi, e⟩ := List.mem_iff_getElem.mp (W.steps s hs)
        have hb : b[i]? = some (s.2, some s.1) := by rw [List.getElem?_eq_getElem hi, e]
        obtain ⟨⟨j2, h1, h2⟩, _⟩ := R.par i s.2 s.1 hb
        have hk : (ks b)[i]? = some s.2 := by
          show (b.map (·.1))[i]? = _
          rw [List.getElem?_map, hb]; rfl
        exact ⟨R.inV _ (List.mem_of_getElem? h2), R.inV _ (List.mem_of_getElem? hk)⟩
      have stroom : ∀ s ∈ st, 0 < room c f s.1 s.2 := fun s hs => by
        obtain ⟨i, hi, e⟩ := List.mem_iff_getElem.mp (W.steps s hs)
        exact (R.par i s.2 s.1 (by rw [List.getElem?_eq_getElem hi, e])).2
      have hfl : f.length ≤ 3600 := Nat.le_trans (keys_len hK) (Nat.mul_le_mul lenV lenV)
      let ns := st.map fun s => room c f s.1 s.2
      have nsl : 0 < ns.length := by
        show 0 < (st.map _).length
        rw [List.length_map]; exact List.length_pos_iff.mpr stne
      refine ht_callMX (k := 0) (p := p) (c := .dT (mP fI f)) (Rs0 := [rRef p, rLst (st.map rPr), rLeast ns]) (Z := fun x : PM × List (Int × Int) × Int => ∃ a, x = (f, st, a) ∧ a ∈ ns ∧ ∀ y ∈ ns, a ≤ y) (ea_cons (ev_var rfl) (ea_cons (ev_var rfl) (ea_cons (ev_cb (ea_cons ((ev_lc0 (f := rPr) (r := fun s => rInt (room c f s.1 s.2)) (src_lst (ev_var rfl)) (small hst2) fun s _ => ⟨_, _, tg_two, by simp, ev_call (Rr := fun x : (PM × PM × Option Addr) × Int × Int => rInt (gt x.1.1 x.2.1 x.2.2 - gt x.1.2.1 x.2.1 x.2.2)) ((c, f, some p), s.1, s.2) (ea_cons (ev_var rfl) (ea_cons (ev_var rfl) (ea_cons (ev_var rfl) (ea_cons (ev_var rfl) ea_nil)))) trivial (fun e he => he)⟩).to (R' := rLI ns) (by show rLst _ = rLst _; rw [List.map_map]; rfl)) ea_nil) (vc_min nsl)) ea_nil))) (fun vs G hv => ?_) rfl (fun x ⟨a, e, _⟩ => by rw [e]) (.inl (by simp)) (fun x ⟨a, e, _⟩ => by
        rw [e]
        show f.length + 2 * st.length ≤ 90000
        omega) (fun x c' _ e => by rw [e]; rfl) (fun _ _ => rfl) fun x c' hx e => ?_
      · match vs, hv with
        | [v1, v2, v3], hv =>
          obtain ⟨h1, h2, ⟨a, ha, h3⟩, _⟩ := hv
          exact ⟨(f, st, a), ⟨a, rfl, ha.1, ha.2⟩, h1, h2, h3, trivial⟩
      · obtain ⟨a, rfl, ha1, ha2⟩ := hx
        have e : c' = .dT (mP fI (pushed f st a)) := e
        subst e
        obtain ⟨s0, hs0, ea⟩ := List.mem_map.mp ha1
        have apos : 0 < a := by
          have := stroom s0 hs0
          have ea : room c f s0.1 s0.2 = a := ea
          omega
        obtain ⟨F2, hval⟩ := grow ndV dj F R.toBInv W hg1 (tV g hg1) apos fun s hs => ha2 _ (List.mem_map.mpr ⟨s, hs, rfl⟩)
        have hle : val V src (pushed f st a) ≤ bd := val_le F2 dj pts
        have hle2 : val V src f ≤ bd := val_le F dj pts
        have hval : val V src (pushed f st a) = val V src f + a := hval
        have hlt : (bd - val V src (pushed f st a)).toNat < (bd - val V src f).toNat := by omega
        exact ⟨(bd - val V src (pushed f st a)).toNat, hlt, _, _, _, _, _, F2, keys_pushed hK stV, rfl, rfl, rfl, rfl⟩
theorem c_grown_flow (T : Tp K mg) : Kal P w K mg base 3 "grown_flow" ["capacities", "sources", "sinks"] spGrown := by
  obtain ⟨⟨fd, F⟩, hm⟩ := T.at_ 20 "grown_flow" 38
  exact kal_of F hm (ok_grown_flow T F) (fun _ _ _ _ _ _ us hl => match us, hl with | [_, _, _], _ => rfl)
end
end K96
set_option Elab.async false
set_option linter.all false
set_option maxRecDepth 100000
set_option maxHeartbeats 4000000
/-! least sides -/
namespace K96
open PySem PySem.Spec L2 Rz Cut
section
variable {P : Program} {w : World} {K : PySem.W.Frag} {mg : Str → Option Value} {base : Heap}
/-- a network: its nodes, its edges, its terminals, directed -/
structure Nw where
  ns : List Int
  es : Edges
  ts : List Int
  dir : Bool
abbrev rEd (e : Int × Int × Int) : Rp := rTI [e.1, e.2.1, e.2.2]
abbrev ceE (e : (Int × Int) × Int) : Int × Int × Int := (e.1.1, e.1.2, e.2)
abbrev rCaps (es : Edges) : Rp := rEx (fun cs : PM => (cs.map ceE).Perm es) rPM
def netF (x : Nw) : List (Str × Rp) := [("nodes", rTI x.ns), ("edges", rTup (x.es.map rEd)), ("terminals", rTI x.ts), ("inner", rTI (less x.ns x.ts)), ("directed", rBl x.dir), ("_capacities", rCaps x.es)]
abbrev rNet (K : PySem.W.Frag) (x : Nw) : Rp := rIns (He.ga K "Network") (netF x)
structure NwOk (x : Nw) : Prop where
  nodes : NodesOk x.ns
  len : x.ns.length ≤ 60
  edges : EdgesOk x.ns x.dir x.es
  elen : x.es.length ≤ 400
  terms : NodesOk x.ts
  sub : ∀ y ∈ x.ts, y ∈ x.ns
  many : 2 ≤ x.ts.length ∧ x.ts.length ≤ 9
section
variable {t : Tys} {O : Os} {te : TE} {x : Nw}
theorem f_nodes (T : Tp K mg) (h : EvT t O te (rNet K x)) : EvT t O (tFld K te "nodes") (rTI x.ns) := ev_fld h T.cls_Network T.no_Network_nodes rfl
theorem f_edges (T : Tp K mg) (h : EvT t O te (rNet K x)) : EvT t O (tFld K te "edges") (rTup (x.es.map rEd)) := ev_fld h T.cls_Network T.no_Network_edges rfl
theorem f_terms (T : Tp K mg) (h : EvT t O te (rNet K x)) : EvT t O (tFld K te "terminals") (rTI x.ts) := ev_fld h T.cls_Network T.no_Network_terminals rfl
theorem f_inner (T : Tp K mg) (h : EvT t O te (rNet K x)) : EvT t O (tFld K te "inner") (rTI (less x.ns x.ts)) := ev_fld h T.cls_Network T.no_Network_inner rfl
theorem f_caps (T : Tp K mg) (h : EvT t O te (rNet K x)) : EvT t O (tFld K te "_capacities") (rCaps x.es) := ev_fld h T.cls_Network T.no_Network__capacities rfl
theorem f_dir (T : Tp K mg) (h : EvT t O te (rNet K x)) : EvT t O (tFld K te "directed") (rBl x.dir) := ev_fld h T.cls_Network T.no_Network_directed rfl
end
abbrev inB (S : List Int) : Int → Bool := fun y => decide (y ∈ S)
abbrev spLeaving (K : PySem.W.Frag) : Sp := Prm (fun x : Nw × List Int => [rNet K x.1, rTI x.2]) (fun _ => []) (fun x => x.1.es.length ≤ 400) (fun x => rLst ((x.1.es.filter (Cut.leaves x.1.dir (inB x.2))).map rEd))
theorem ok_leaving (T : Tp K mg) {fd : FuncData} (F : FunD K "leaving" "leaving" (defArgs (top 43)) (defBody (top 43)) (defScope (top 43)) [] [] (He.ga K "leaving") fd) : FnOk P w K mg base CX0 1 (He.ga K "leaving") fd ["network", "nodes"] (spLeaving K) := by
  have sc : FnScope ["network", "nodes", "found", "u", "v", "capacity"] ["network", "nodes"] (defScope (top 43)) := ⟨rfl, rfl, rfl, by decide +kernel, rfl, by decide +kernel, by decide +kernel⟩
  refine fn_prm F sc (fun _ => rfl) (fun _ => by first | exact List.nodup_nil | exact nd_fl | simp) fun cdv A outer s H E hr => ?_
  refine ⟨_, (pss_cons (ps_set (i := 2) sc.nd rfl (Or.inl rfl) (pe_lst pa_nil))
      (pss_cons (ps_for PassesOwn.never rfl (pi_tup (pe_fld (pv 0) rfl)) (pg_tup (n := 3) (by rfl) (pgs_cons (pg_name (i := 3) sc.nd rfl (Or.inl rfl)) (pgs_cons (pg_name (i := 4) sc.nd rfl (Or.inl rfl)) (pgs_cons (pg_name (i := 5) sc.nd rfl (Or.inl rfl)) pgs_nil)))) (pss_one (ps_if (PW.pt (pw_or (PW.pt (pw_and (pt_cmpR op_in_seq (pv 3) (pv 1) rfl) (pw_and1 (pt_cmpR op_notIn_seq (pv 4) (pv 1) rfl)))) (pw_or1 (PW.pt (pw_and (pt_not (pt_val (pe_fld (pv 0) rfl))) (pw_and (pt_cmpR op_in_seq (pv 4) (pv 1) rfl) (pw_and1 (pt_cmpR op_notIn_seq (pv 3) (pv 1) rfl)))))))) (pss_one (ps_expr (pe_bm PySem.F.plainAttrs_list PySem.F.slot_list_append PySem.F.type_list_append mt_append (pv 2) (pa_cons (pe_tup (pa_cons (pv 3) (pa_cons (pv 4) (pa_cons (pv 5) pa_nil)))) pa_nil)))) pss_nil)))
      (pss_one (ps_ret (pv 2))))), fun y hp => ?_⟩
  obtain ⟨x, S⟩ := y
  have hp : x.es.length ≤ 400 := hp
  refine hs_setN (en_lst ea_nil) (k := fun f => ?_)
  let I : Nat → Nxt := fun i t1 O1 W1 => ∃ (o1 o2 o3 : Option Rp), t1 = [some (rNet K x), some (rTI S), some (rRef f), o1, o2, o3] ∧ O1 = [(f, .lst (((x.es.take i).filter (Cut.leaves x.dir (inB S))).map rEd))] ∧ W1 = [f]
  refine hs_for (src_tup (f_edges T (ev_var rfl))) I ⟨_, _, _, rfl, rfl, rfl⟩ ?_ ?_
  · rintro i R t1 O1 W1 hR ⟨o1, o2, o3, rfl, rfl, rfl⟩
    rw [List.getElem?_map] at hR
    cases he : x.es[i]? with
    | none => rw [he] at hR; cases hR
    | some e =>
      rw [he] at hR
      cases hR
      have hl : ((x.es.take i).filter (Cut.leaves x.dir (inB S))).length ≤ 400 := by
        refine Nat.le_trans (List.length_filter_le _ _) ?_
        rw [List.length_take]; omega
      refine ⟨_, _, tg_three (Ra := rInt e.1) (Rb := rInt e.2.1) (Rc := rInt e.2.2), ?_⟩
      refine ht_if (c := Cut.leaves x.dir (inB S) e) (eb_or (eb_and (eb_test (ev_op (ev_var rfl) (ev_var rfl) vo_isT)) fun _ => eb_test (ev_op (ev_var rfl) (ev_var rfl) vo_niT)) fun _ => eb_and (eb_not (eb_b (f_dir T (ev_var rfl)))) fun _ => eb_and (eb_test (ev_op (ev_var rfl) (ev_var rfl) vo_isT)) fun _ => eb_test (ev_op (ev_var rfl) (ev_var rfl) vo_niT)) (fun ht => ?_) fun hf => ?_
      · refine ht_append (k := 0) (R := rEd e) (ev_var rfl) (ev_tup (Rs := [rInt e.1, rInt e.2.1, rInt e.2.2]) (ea_cons (ev_var rfl) (ea_cons (ev_var rfl) (ea_cons (ev_var rfl) ea_nil)))) rfl (.inl (by simp)) (lineBig (by rw [List.length_map]; omega)) ⟨_, _, _, rfl, ?_, rfl⟩
        rw [snoc_take he, List.filter_append, List.filter_cons_of_pos ht, List.map_append]; rfl
      · refine ht_next ⟨_, _, _, rfl, ?_, rfl⟩
        rw [snoc_take he, List.filter_append, List.filter_cons_of_neg (by rw [hf]; simp)]
        simp
  · rintro t1 O1 W1 ⟨o1, o2, o3, rfl, rfl, rfl⟩
    rw [List.length_map, List.take_length]
    refine HT.freeze (p := f) (i := 2) (k := 0) (c := .lst _) (rLst _) rfl rfl (by simp) (fun o F' hF hok => oc_lst f o F' hF hok) ?_
    exact ht_ret (ev_var rfl) rfl
theorem c_leaving (T : Tp K mg) : Kal P w K mg base 1 "leaving" ["network", "nodes"] (spLeaving K) := by
  obtain ⟨⟨fd, F⟩, hm⟩ := T.at_ 24 "leaving" 43
  exact kal_of F hm (ok_leaving T F) (fun _ _ _ _ _ _ us hl => match us, hl with | [_, _], _ => rfl)
abbrev spCapOf (K : PySem.W.Frag) : Sp := Prm (fun x : Nw × List Int => [rNet K x.1, rTI x.2]) (fun _ => []) (fun x => x.1.es.length ≤ 400) (fun x => rInt (cutp x.1.dir x.1.es (inB x.2)))
theorem ok_capacity_of (T : Tp K mg) {fd : FuncData} (F : FunD K "capacity_of" "capacity_of" (defArgs (top 44)) (defBody (top 44)) (defScope (top 44)) [] [] (He.ga K "capacity_of") fd) : FnOk P w K mg base CX0 2 (He.ga K "capacity_of") fd ["network", "nodes"] (spCapOf K) := by
  have sc : FnScope ["network", "nodes", "capacity", "u", "v"] ["network", "nodes"] (defScope (top 44)) := ⟨rfl, rfl, rfl, by decide +kernel, rfl, by decide +kernel, by decide +kernel⟩
  have c_leaving := c_leaving (P := P) (w := w) (base := base) T
  refine fn_prm F sc (fun _ => rfl) (fun _ => by first | exact List.nodup_nil | exact nd_fl | simp) fun cdv A outer s H E hr => ?_
  refine ⟨_, (pss_one (ps_ret (pe_callB (cr_sum rfl) (by rfl) T.sum boot_sum (pa_cons (pe_lc (own := [("u", 3), ("v", 4), ("capacity", 2)]) (by rfl) sc.nd (pi_list (pe_k c_leaving hr (by decide) (by rfl) (pa_cons (pv 0) (pa_cons (pv 1) pa_nil)))) (blkOk_by (by kernel_rfl)) (fun _ _ _ _ _ => (pg_tupK K (n := 3) (by rfl) (pgs_cons (pg_name (i := 3) sc.nd rfl (Or.inl rfl)) (pgs_cons (pg_name (i := 4) sc.nd rfl (Or.inl rfl)) (pgs_cons (pg_name (i := 2) sc.nd rfl (Or.inl rfl)) pgs_nil))))) (fun _ _ _ _ _ => pts_nil) (fun _ _ _ _ _ => (pv 2))) pa_nil)))), fun y hp => ?_⟩
  obtain ⟨x, S⟩ := y
  have hp : x.es.length ≤ 400 := hp
  refine ht_ret (ev_cb (ea_cons ((ev_lc0 (f := rEd) (r := fun e => rInt e.2.2) (xs := x.es.filter (Cut.leaves x.dir (inB S))) (src_lst (ev_call (x, S) (ea_cons (ev_var rfl) (ea_cons (ev_var rfl) ea_nil)) hp)) (small (Nat.le_trans (List.length_filter_le _ _) (by omega))) fun e _ => ⟨_, _, tg_three (Ra := rInt e.1) (Rb := rInt e.2.1) (Rc := rInt e.2.2), by simp, ev_var rfl⟩).to (R' := rLI ((x.es.filter (Cut.leaves x.dir (inB S))).map fun e => e.2.2)) (by show rLst _ = rLst _; rw [List.map_map]; rfl)) ea_nil) vc_sum) ?_
  show rInt _ = rInt _
  rw [cutp_filter]
theorem c_capacity_of (T : Tp K mg) : Kal P w K mg base 2 "capacity_of" ["network", "nodes"] (spCapOf K) := by
  obtain ⟨⟨fd, F⟩, hm⟩ := T.at_ 25 "capacity_of" 44
  exact kal_of F hm (ok_capacity_of T F) (fun _ _ _ _ _ _ us hl => match us, hl with | [_, _], _ => rfl)
abbrev spCaps (K : PySem.W.Frag) : Sp := Prm (fun x : Nw => [rNet K x]) (fun _ => []) NwOk (fun x => rPM (capsOf x.dir x.es))
theorem ok_capacities_of (T : Tp K mg) {fd : FuncData} (F : FunD K "capacities_of" "capacities_of" (defArgs (top 46)) (defBody (top 46)) (defScope (top 46)) [] [] (He.ga K "capacities_of") fd) : FnOk P w K mg base CX0 1 (He.ga K "capacities_of") fd ["network"] (spCaps K) := by
  have sc : FnScope ["network", "found", "u", "v", "capacity"] ["network"] (defScope (top 46)) := ⟨rfl, rfl, rfl, by decide +kernel, rfl, by decide +kernel, by decide +kernel⟩
  refine fn_prm F sc (fun _ => rfl) (fun _ => by first | exact List.nodup_nil | exact nd_fl | simp) fun cdv A outer s H E hr => ?_
  have hu := hu_of hr
  refine ⟨_, (pss_cons (ps_set (i := 1) sc.nd rfl (Or.inl rfl) pe_dnewT)
      (pss_cons (ps_for PassesOwn.never rfl (pi_tup (pe_fld (pv 0) rfl)) (pg_tup (n := 3) (by rfl) (pgs_cons (pg_name (i := 2) sc.nd rfl (Or.inl rfl)) (pgs_cons (pg_name (i := 3) sc.nd rfl (Or.inl rfl)) (pgs_cons (pg_name (i := 4) sc.nd rfl (Or.inl rfl)) pgs_nil)))) (pss_cons (ps_dput hu (pv 1) (pe_tup (pa_cons (pv 2) (pa_cons (pv 3) pa_nil))) (pv 4) rfl)
      (pss_one (ps_if (pt_not (pt_val (pe_fld (pv 0) rfl))) (pss_one (ps_dput hu (pv 1) (pe_tup (pa_cons (pv 3) (pa_cons (pv 2) pa_nil))) (pv 4) rfl)) pss_nil))))
      (pss_one (ps_ret (pv 1))))), fun x hp => ?_⟩
  have hl := hp.elen
  refine hs_setN en_dT (k := fun f => ?_)
  let I : Nat → Nxt := fun i t1 O1 W1 => ∃ (o1 o2 o3 : Option Rp), t1 = [some (rNet K x), some (rRef f), o1, o2, o3] ∧ O1 = [(f, .dT (mP fI (capsOf x.dir (x.es.take i))))] ∧ W1 = [f]
  refine hs_for (src_tup (f_edges T (ev_var rfl))) I ⟨_, _, _, rfl, rfl, rfl⟩ ?_ ?_
  · rintro i R t1 O1 W1 hR ⟨o1, o2, o3, rfl, rfl, rfl⟩
    rw [List.getElem?_map] at hR
    cases he : x.es[i]? with
    | none => rw [he] at hR; cases hR
    | some e =>
      rw [he] at hR
      cases hR
      have hlen : (capsOf x.dir (x.es.take i)).length ≤ 2 * i := by
        have key : ∀ (el : Edges) (l : PM), (el.foldl (step1 x.dir) l).length ≤ l.length + 2 * el.length := by
          intro el
          induction el with
          | nil => intro l; exact Nat.le_refl _
          | cons e el ih =>
            intro l
            have h1 := ih (step1 x.dir l e)
            have h2 : (step1 x.dir l e).length ≤ l.length + 2 := by
              unfold step1
              split
              · have := pk_len (l := l) (k := (e.1, e.2.1)) (a := e.2.2); omega
              · have h3 := pk_len (l := l) (k := (e.1, e.2.1)) (a := e.2.2)
                have h4 := pk_len (l := pk l (e.1, e.2.1) e.2.2) (k := (e.2.1, e.1)) (a := e.2.2)
                omega
            show ((el.foldl (step1 x.dir) (step1 x.dir l e)).length) ≤ _
            rw [List.length_cons]; omega
        have h1 := key (x.es.take i) []
        have h2 : (x.es.take i).length ≤ i := by rw [List.length_take]; omega
        have h3 : ([] : PM).length = 0 := rfl
        unfold capsOf
        omega
      have hi : i < x.es.length := (List.getElem?_eq_some_iff.mp he).1
      have hnext : capsOf x.dir (x.es.take (i + 1)) = step1 x.dir (capsOf x.dir (x.es.take i)) e := by
        unfold capsOf
        rw [snoc_take he, List.foldl_append]; rfl
      generalize hg : capsOf x.dir (x.es.take i) = g at hlen hnext
      refine ⟨_, _, tg_three (Ra := rInt e.1) (Rb := rInt e.2.1) (Rc := rInt e.2.2), ?_⟩
      refine hs_of (O' := [(f, .dT (mP fI (pk g (e.1, e.2.1) e.2.2)))]) (fun {Nx Rt} hn => ht_dputT (R := rInt e.2.2) (k := 0) (j := kP (e.1, e.2.1)) (ev_var rfl) (ev_var rfl) (ev_kP (ev_var rfl) (ev_var rfl)) rfl (.inl (by simp)) (lineBig (by unfold mP; rw [List.length_map]; omega)) ?_) ?_
      · rw [pk_mP (f := fI)]; exact hn
      · refine ht_if (eb_not (eb_b (f_dir T (ev_var rfl)))) (fun ht => ?_) fun hf => ?_
        · have hd : x.dir = false := by simpa using ht
          refine ht_dputT (R := rInt e.2.2) (k := 0) (j := kP (e.2.1, e.1)) (ev_var rfl) (ev_var rfl) (ev_kP (ev_var rfl) (ev_var rfl)) rfl (.inl (by simp)) (lineBig ?_) ⟨_, _, _, rfl, ?_, rfl⟩
          · unfold mP
            rw [List.length_map]
            have := pk_len (l := g) (k := (e.1, e.2.1)) (a := e.2.2)
            omega
          · rw [pk_mP (f := fI), hnext]
            unfold step1
            rw [hd]; rfl
        · have hd : x.dir = true := by simpa using hf
          refine ht_next ⟨_, _, _, rfl, ?_, rfl⟩
          rw [hnext]
          unfold step1
          rw [hd]; rfl
  · rintro t1 O1 W1 ⟨o1, o2, o3, rfl, rfl, rfl⟩
    rw [List.length_map, List.take_length]
    refine HT.freeze (p := f) (i := 1) (k := 0) (c := .dT (mP fI (capsOf x.dir x.es))) (rPM (capsOf x.dir x.es)) rfl rfl (by simp) (fun o F' hF hok => oc_dT f o F' hF hok) ?_
    exact ht_ret (ev_var rfl) rfl
theorem c_capacities_of (T : Tp K mg) : Kal P w K mg base 1 "capacities_of" ["network"] (spCaps K) := by
  obtain ⟨⟨fd, F⟩, hm⟩ := T.at_ 27 "capacities_of" 46
  exact kal_of F hm (ok_capacities_of T F) (fun _ _ _ _ _ _ us hl => match us, hl with | [_], _ => rfl)
/-- the smallest, the largest least side -/
structure Least (x : Nw) (src snk A B : List Int) : Prop where
  fa : ∃ p, A = x.ns.filter p
  fb : ∃ p, B = x.ns.filter p
  pair : MinPair x.ns src snk (cutp x.dir x.es) (inB A) (inB B)
theorem pair_on {V src snk : List Int} {c : (Int → Bool) → Int} {a b a' b' : Int → Bool} (m : MinPair V src snk c a b) (ha : ∀ y ∈ V, a y = a' y) (hb : ∀ y ∈ V, b y = b' y) (hc : ∀ p q, (∀ y ∈ V, p y = q y) → c p = c q) : MinPair V src snk c a' b' := by
  have ea : c a = c a' := hc _ _ ha
  have eb : c b = c b' := hc _ _ hb
  refine ⟨⟨fun y hy hs => by rw [← ha y hy]; exact m.pa.1 y hy hs, fun y hy hs => by rw [← ha y hy]; exact m.pa.2 y hy hs⟩, ⟨fun y hy hs => by rw [← hb y hy]; exact m.pb.1 y hy hs, fun y hy hs => by rw [← hb y hy]; exact m.pb.2 y hy hs⟩, fun p hp => by rw [← ea]; exact m.least p hp, by rw [← ea, ← eb]; exact m.eqb, fun p hp e y hy h => ?_, fun p hp e y hy h => ?_⟩
  · exact m.low p hp (by rw [ea]; exact e) y hy (by rw [ha y hy]; exact h)
  · rw [← hb y hy]; exact m.high p hp (by rw [ea]; exact e) y hy h
theorem cutp_on {x : Nw} (h : EdgesOk x.ns x.dir x.es) : ∀ p q : Int → Bool, (∀ y ∈ x.ns, p y = q y) → cutp x.dir x.es p = cutp x.dir x.es q := fun p q e => cutp_congr fun z hz => ⟨e _ (h.inV z hz).1, e _ (h.inV z hz).2⟩
theorem inB_filter {V : List Int} {p : Int → Bool} {y : Int} (hy : y ∈ V) : inB (V.filter p) y = p y := by
  show decide (y ∈ V.filter p) = p y
  cases h : p y with
  | true => exact decide_eq_true (List.mem_filter.mpr ⟨hy, h⟩)
  | false => exact decide_eq_false fun z => by rw [(List.mem_filter.mp z).2] at h; cases h
theorem rising_nd {l : List Int} (h : l.Pairwise (· < ·)) : l.Nodup := h.imp fun h => Int.ne_of_lt h
/-- two parts of the nodes -/
structure Ends (x : Nw) (src snk : List Int) : Prop where
  nds : src.Nodup
  ndt : snk.Nodup
  sV : ∀ y ∈ src, y ∈ x.ns
  tV : ∀ y ∈ snk, y ∈ x.ns
  dj : ∀ y ∈ src, y ∉ snk
theorem grown_known {t : Tys} {O : Os} {tr : TA} {E : XK} (x : ArgG) (ha : EvA t O tr [rPM x.1, rTI x.2.1, rTI x.2.2.1]) (hp : PreG x) : EvT t O (tCall spGrown [] E tr) (rEx (Done x) rPM) := ev_callNT x ha hp fun c ⟨f, hf, e⟩ => ⟨f, hf, fun p o F h1 h2 => by
  subst e
  exact oc_dT p o F h1 h2⟩
abbrev ArgL := Nw × List Int × List Int
def rLeast2 (x : ArgL) : Rp := rEx (fun ab : List Int × List Int => Least x.1 x.2.1 x.2.2 ab.1 ab.2) fun ab => rTup [rTI ab.1, rTI ab.2]
abbrev spLeast (K : PySem.W.Frag) : Sp := Prm (fun x : ArgL => [rNet K x.1, rTI x.2.1, rTI x.2.2]) (fun _ => []) (fun x => NwOk x.1 ∧ Ends x.1 x.2.1 x.2.2) rLeast2
theorem ok_nodes_of_least (T : Tp K mg) {fd : FuncData} (F : FunD K "nodes_of_least" "nodes_of_least" (defArgs (top 48)) (defBody (top 48)) (defScope (top 48)) [] [] (He.ga K "nodes_of_least") fd) : FnOk P w K mg base CX0 4 (He.ga K "nodes_of_least") fd ["network", "sources", "sinks"] (spLeast K) := by
  have sc : FnScope ["network", "sources", "sinks", "capacities", "near", "flow", "inside", "beyond", "smallest", "node"] ["network", "sources", "sinks"] (defScope (top 48)) := ⟨rfl, rfl, rfl, by decide +kernel, rfl, by decide +kernel, by decide +kernel⟩
  have c_capacities_of := c_capacities_of (P := P) (w := w) (base := base) T
  have c_near_nodes := c_near_nodes (P := P) (w := w) (base := base) T
  have c_grown_flow := c_grown_flow (P := P) (w := w) (base := base) T
  have c_reached_from := c_reached_from (P := P) (w := w) (base := base) T
  have c_reaching := c_reaching (P := P) (w := w) (base := base) T
  refine fn_prm F sc (fun _ => rfl) (fun _ => by first | exact List.nodup_nil | exact nd_fl | simp) fun cdv A outer s H E hr => ?_
  have hu := hu_of hr
  refine ⟨_, (pss_cons (ps_set (i := 3) sc.nd rfl (Or.inl rfl) (pe_k c_capacities_of hr (by decide) (by rfl) (pa_cons (pv 0) pa_nil)))
      (pss_cons (ps_par (i := 4) (j := 5) (by rfl) sc.nd rfl rfl (by decide) rfl rfl (pa_cons (pe_k c_near_nodes hr (by decide) (by rfl) (pa_cons (pv 3) pa_nil)) (pa_cons (pe_k c_grown_flow hr (by decide) (by rfl) (pa_cons (pv 3) (pa_cons (pv 1) (pa_cons (pv 2) pa_nil)))) pa_nil)) (by rfl))
      (pss_cons (ps_set (i := 6) sc.nd rfl (Or.inr rfl) (pe_k c_reached_from hr (by decide) (by rfl) (pa_cons (pv 4) (pa_cons (pv 3) (pa_cons (pv 5) (pa_cons (pv 1) pa_nil))))))
      (pss_cons (ps_set (i := 7) sc.nd rfl (Or.inr rfl) (pe_k c_reaching hr (by decide) (by rfl) (pa_cons (pv 4) (pa_cons (pv 3) (pa_cons (pv 5) (pa_cons (pv 2) pa_nil))))))
      (pss_cons (ps_set (i := 8) sc.nd rfl (Or.inl rfl) (pe_callTy call_tuple_of (by rfl) T.tuple boot_tup (pa_cons (pe_lc (own := [("node", 9)]) (by rfl) sc.nd (pi_tup (pe_fld (pv 0) rfl)) (blkOk_by (by kernel_rfl)) (fun _ _ _ _ _ => (pg_name (i := 9) sc.nd rfl (Or.inl rfl))) (fun _ _ _ _ _ => (pts_one (pt_cmp (pc_din hu (pv 9) (pv 6)) rfl))) (fun _ _ _ _ _ => (pv 9))) pa_nil)))
      (pss_one (ps_ret (pe_tup (pa_cons (pv 8) (pa_cons (pe_callTy call_tuple_of (by rfl) T.tuple boot_tup (pa_cons (pe_lc (own := [("node", 9)]) (by rfl) sc.nd (pi_tup (pe_fld (pv 0) rfl)) (blkOk_by (by kernel_rfl)) (fun _ _ _ _ _ => (pg_name (i := 9) sc.nd rfl (Or.inl rfl))) (fun _ _ _ _ _ => (pts_one (pt_cmp (pc_dnotin hu (pv 9) (pv 7)) rfl))) (fun _ _ _ _ _ => (pv 9))) pa_nil)) pa_nil)))))))))), fun y hp => ?_⟩
  obtain ⟨x, src, snk⟩ := y
  obtain ⟨ok, en⟩ := hp
  have ok : NwOk x := ok
  have ndV := rising_nd ok.nodes.2.1
  have lenV := ok.len
  have hmem := caps_mem ok.edges
  have cV : ∀ e ∈ capsOf x.dir x.es, e.1.1 ∈ x.ns ∧ e.1.2 ∈ x.ns := fun e he => ⟨(hmem e he).1, (hmem e he).2.1⟩
  have clen : (capsOf x.dir x.es).length ≤ 1000 := by
    have h1 := caps_len ok.edges
    have h2 := ok.elen
    omega
  refine hs_set (ev_call x (ea_cons (ev_var rfl) ea_nil) ok) ?_
  generalize hc : capsOf x.dir x.es = c at cV clen
  refine hs_parTT (ev_call (c, x.ns) (ea_cons (ev_var rfl) ea_nil) ⟨clen, cV, lenV⟩) (grown_known (c, src, snk, x.ns) (ea_cons (ev_var rfl) (ea_cons (ev_var rfl) (ea_cons (ev_var rfl) ea_nil))) ⟨ndV, lenV, en.nds, en.ndt, en.sV, en.tV, en.dj, cV, fun e he => (hmem e (by rw [hc]; exact he)).2.2.2, clen⟩) fun n f hn hf => ?_
  obtain ⟨F, _, n', b', hn', R', full⟩ := hf
  have F : Flow x.ns src snk c f := F
  have lim : x.ns.length ≤ 1000 := by omega
  refine hs_setE (ev_call (n, c, f, none, src, x.ns) (ea_cons (ev_var rfl) (ea_cons (ev_var rfl) (ea_cons (ev_var rfl) (ea_cons (ev_var rfl) ea_nil)))) ⟨en.nds, en.sV, near_in hn cV, lim⟩ (fun _ h => h)) fun b R => ?_
  refine hs_setE (ev_call (n, c, f, none, snk, x.ns) (ea_cons (ev_var rfl) (ea_cons (ev_var rfl) (ea_cons (ev_var rfl) (ea_cons (ev_var rfl) ea_nil)))) ⟨en.ndt, en.tV, near_in hn cV, lim⟩ (fun _ h => h)) fun l Tr => ?_
  have R : Reach x.ns src n c f b := R
  have Tr : TReach x.ns snk n c f l := Tr
  have R' : Reach x.ns src n' c f b' := R'
  refine hs_set (ev_cb (ea_cons (ev_lc (c := fun y => decide (y ∈ ks b)) (src_tup (f_nodes T (ev_var rfl))) (small lim) fun y _ => ⟨_, _, tg_name, by simp, eb_b ((ev_inK (k := kI y) (ev_var rfl) (ev_var rfl) (.inl rfl)).to (R' := rBl (decide (y ∈ ks b))) (by rw [in_rp])), fun _ => ev_var rfl⟩) ea_nil) vc_tupleL) ?_
  refine ht_ret (R := rLeast2 (x, src, snk)) (EvT.intro (x.ns.filter (fun y => decide (y ∈ ks b)), x.ns.filter (fun y => !decide (y ∈ l))) ?_ (ev_tup (ea_cons (ev_var rfl) (ea_cons (ev_cb (ea_cons (ev_lc (c := fun y => !decide (y ∈ l)) (src_tup (f_nodes T (ev_var rfl))) (small lim) fun y _ => ⟨_, _, tg_name, by simp, eb_b ((ev_notInK (k := kI y) (ev_var rfl) (ev_var rfl) (.inl rfl)).to (R' := rBl (!decide (y ∈ l))) (by rw [in_rp, ks_un])), fun _ => ev_var rfl⟩) ea_nil) vc_tupleL) ea_nil)))) rfl
  refine ⟨⟨_, rfl⟩, ⟨_, rfl⟩, ?_⟩
  have r2 : ∀ y ∈ x.ns, y ∈ snk → decide (y ∈ ks b) = false := fun y hy hs => by
    -- what is reached now is what was reached when the flow was full
    have h1 := R'.low (fun z => decide (z ∈ ks b)) (fun z hz hzs => decide_eq_true (List.mem_map.mpr ⟨_, R.roots z hzs, rfl⟩)) (R.cl hn F.ok)
    have h2 := R.low (fun z => decide (z ∈ ks b')) (fun z hz hzs => decide_eq_true (List.mem_map.mpr ⟨_, R'.roots z hzs, rfl⟩)) (R'.cl hn' F.ok)
    cases hd : decide (y ∈ ks b) with
    | false => rfl
    | true => exact absurd (of_decide_eq_true (h2 y hy hd)) (full y hs)
  have mp := min_pair F en.dj (R := fun y => decide (y ∈ ks b)) (T := fun y => decide (y ∈ l)) (fun y _ hs => decide_eq_true (List.mem_map.mpr ⟨_, R.roots y hs, rfl⟩)) r2 (R.cl hn F.ok) (fun p hp cl => R.low p hp cl) (fun y _ hs => decide_eq_true (Tr.base y hs)) (Tr.cl hn F.ok) (fun p hp cl => Tr.low p hp cl)
  have hcut : ∀ p, cutp x.dir x.es p = cutV x.ns c p := fun p => by
    rw [← caps_cut ok.edges p, ← cut_edges ndV (caps_nd ok.edges) (fun e he => ⟨(hmem e he).1, (hmem e he).2.1⟩), hc]
  exact pair_on (mp.congr hcut) (fun y hy => (inB_filter (p := fun y => decide (y ∈ ks b)) hy).symm) (fun y hy => (inB_filter (p := fun y => !decide (y ∈ l)) hy).symm) (cutp_on ok.edges)
theorem c_nodes_of_least (T : Tp K mg) : Kal P w K mg base 4 "nodes_of_least" ["network", "sources", "sinks"] (spLeast K) := by
  obtain ⟨⟨fd, F⟩, hm⟩ := T.at_ 29 "nodes_of_least" 48
  exact kal_of F hm (ok_nodes_of_least T F) (fun _ _ _ _ _ _ us hl => match us, hl with | [_, _, _], _ => rfl)
end
end K96
set_option Elab.async false
set_option linter.all false
set_option maxRecDepth 100000
set_option maxHeartbeats 4000000
/-! the shapes of a network -/
namespace K96
open PySem PySem.Spec L2 Rz Cut
section
variable {P : Program} {w : World} {K : PySem.W.Frag} {mg : Str → Option Value} {base : Heap}
/-- a tuple or a list -/
def rSq (b : Bool) (Rs : List Rp) : Rp := if b = true then rTup Rs else rLst Rs
abbrev rSI (b : Bool) (ns : List Int) : Rp := rSq b (ns.map fun n => rIs (.int n))
section
variable {t : Tys} {O : Os} {tl te ta tb : TE} {b : Bool} {Rs : List Rp}
theorem src_sq (h : EvT t O tl (rSq b Rs)) : SrcT t O (wOr (iTup K tl) (iList K tl)) Rs := by
  cases b with
  | true => exact (src_tup h).inl
  | false => exact (src_lst h).inr
theorem vo_isS {i : Int} {ns : List Int} : VO O (rIn K false) (rInt i) (rSI b ns) (rBl (decide (i ∈ ns))) := by
  cases b with
  | true => exact vo_isT
  | false => exact vo_isL
theorem vo_niS {i : Int} {ns : List Int} : VO O (rIn K true) (rInt i) (rSI b ns) (rBl (!decide (i ∈ ns))) := by
  cases b with
  | true => exact vo_niT
  | false => exact vo_niL
theorem vc_lenS : VC O (fun xs H Q => ∃ p ys, xs = [.ref p] ∧ (SqL K H p ys ∨ SqT K H p ys) ∧ Q (.int ys.length) H) [rSq b Rs] (rInt Rs.length) := by
  cases b with
  | true => exact vc_lenT
  | false => exact vc_lenL
theorem vc_listS : VC O (fun xs H Q => ∃ p ys, xs = [.ref p] ∧ (SqL K H p ys ∨ SqT K H p ys) ∧ ∀ l, H l = none → Q (.ref l) (upd H l (.lst ys))) [rSq b Rs] (rLst Rs) := by
  cases b with
  | true => exact vc_listT
  | false => exact vc_listL
theorem sq_ty : HasTy K (rSq b Rs) "tuple" ∨ HasTy K (rSq b Rs) "list" := by
  cases b with
  | true => exact .inl ty_tup
  | false => exact .inr ty_lst
end
abbrev ArgU := (List Int × Bool) ⊕ List (Int × Int)
def rArgU : ArgU → Rp
  | .inl x => rSI x.2 x.1
  | .inr ps => rLst (ps.map fun p => rTI (prL p))
abbrev spUnlike : Sp := Prm (fun x : ArgU => [rArgU x]) (fun _ => []) (fun x => match x with
  | .inl x => x.1.Nodup ∧ x.1.length ≤ 1000
  | .inr ps => ps.Nodup ∧ ps.length ≤ 1000) (fun _ => rBl true)
theorem prL_inj : ∀ x y : Int × Int, prL x = prL y → x = y := fun x y e => by
  unfold prL at e
  injection e with e1 e2
  injection e2 with e2 _
  exact Prod.ext e1 e2
theorem ok_are_unlike (T : Tp K mg) {fd : FuncData} (F : FunD K "are_unlike" "are_unlike" (defArgs (top 19)) (defBody (top 19)) (defScope (top 19)) [] [] (He.ga K "are_unlike") fd) : FnOk P w K mg base CX0 1 (He.ga K "are_unlike") fd ["items"] spUnlike := by
  have sc : FnScope ["items", "item"] ["items"] (defScope (top 19)) := ⟨rfl, rfl, rfl, by decide +kernel, rfl, by decide +kernel, by decide +kernel⟩
  refine fn_prm F sc (fun _ => rfl) (fun _ => by first | exact List.nodup_nil | exact nd_fl | simp) fun cdv A outer s H E hr => ?_
  refine ⟨_, (pss_one (ps_ret (pe_cmpR op_eq (pe_callB (call_lenD.or call_len_dT) (by rfl) T.len PySem.boot_len (pa_cons (pe_callTy ((call_dictP (by rfl)).or (cr_dictPT (by rfl) hr.units)) (by rfl) T.dict boot_dict (pa_cons (pe_lc (own := [("item", 1)]) (by rfl) sc.nd (pi_seqK K (pv 0)) (blkOk_by (by kernel_rfl)) (fun _ _ _ _ _ => (pg_name (i := 1) sc.nd rfl (Or.inl rfl))) (fun _ _ _ _ _ => pts_nil) (fun _ _ _ _ _ => (pe_tup (pa_cons (pv 1) (pa_cons pe_bl pa_nil))))) pa_nil)) pa_nil)) (pe_callB call_len_seq (by rfl) T.len PySem.boot_len (pa_cons (pv 0) pa_nil)) (nomark _)))), fun x hp => ?_⟩
  cases x with
  | inl x =>
    obtain ⟨ns, b⟩ := x
    obtain ⟨nd, hl⟩ := hp
    refine ht_ret (ev_op (ev_lenDictP (Rw := rBl true) nd (ev_lc0 (f := fun n => rIs (.int n)) (src_sq (ev_var rfl)) (small hl) fun n _ => ⟨_, _, tg_name, by simp, ev_tup (ea_cons (ev_var rfl) (ea_cons ev_c ea_nil))⟩)) (ev_cb (ea_cons (ev_var rfl) ea_nil) vc_lenS) vo_eqI) ?_
    show rBl _ = rBl true
    rw [decide_eq_true (by rw [List.length_map])]
  | inr ps =>
    obtain ⟨nd, hl⟩ := hp
    have nd2 : (ps.map prL).Nodup := List.Pairwise.map _ (fun a b hab e => hab (prL_inj a b e)) nd
    refine ht_ret (ev_op (ev_lenDictPT (Rw := rBl true) nd2 ((ev_lc0 (f := fun p => rTI (prL p)) (r := fun p => rTup [rTI (prL p), rBl true]) (src_lst (ev_var rfl)).inr (small hl) fun n _ => ⟨_, _, tg_name, by simp, ev_tup (ea_cons (ev_var rfl) (ea_cons ev_c ea_nil))⟩).to (by rw [List.map_map]; rfl))) (ev_cb (ea_cons (ev_var rfl) ea_nil) vc_lenL) vo_eqI) ?_
    show rBl _ = rBl true
    rw [decide_eq_true (by rw [List.length_map, List.length_map])]
theorem c_are_unlike (T : Tp K mg) : Kal P w K mg base 1 "are_unlike" ["items"] spUnlike := by
  obtain ⟨⟨fd, F⟩, hm⟩ := T.at_ 6 "are_unlike" 19
  exact kal_of F hm (ok_are_unlike T F) (fun _ _ _ _ _ _ us hl => match us, hl with | [_], _ => rfl)
/-- nodes in any order -/
def Nds (ns : List Int) : Prop := (∀ n ∈ ns, 0 ≤ n ∧ n ≤ 99) ∧ ns.Nodup ∧ ns.length ≤ 1000
abbrev spAreNodes : Sp := Prm (fun x : List Int × Bool => [rSI x.2 x.1]) (fun _ => []) (fun x => Nds x.1) (fun _ => rBl true)
theorem all_nodes {ns : List Int} (h : ∀ n ∈ ns, 0 ≤ n ∧ n ≤ 99) : ns.all (fun n => decide (0 ≤ n) && decide (n ≤ 99)) = true := all_of fun n hn => by rw [decide_eq_true (h n hn).1, decide_eq_true (h n hn).2]; rfl
theorem ok_are_nodes (T : Tp K mg) {fd : FuncData} (F : FunD K "are_nodes" "are_nodes" (defArgs (top 22)) (defBody (top 22)) (defScope (top 22)) [] [] (He.ga K "are_nodes") fd) : FnOk P w K mg base CX0 4 (He.ga K "are_nodes") fd ["value"] spAreNodes := by
  have sc : FnScope ["value", "node"] ["value"] (defScope (top 22)) := ⟨rfl, rfl, rfl, by decide +kernel, rfl, by decide +kernel, by decide +kernel⟩
  have c_is_list := c_is_list (P := P) (w := w) (base := base) T
  have c_is_node := c_is_node (P := P) (w := w) (base := base) T
  have c_are_unlike := c_are_unlike (P := P) (w := w) (base := base) T
  refine fn_prm F sc (fun _ => rfl) (fun _ => by first | exact List.nodup_nil | exact nd_fl | simp) fun cdv A outer s H E hr => ?_
  refine ⟨_, (pss_one (ps_ret (pe_and (pe_k c_is_list hr (by decide) (by rfl) (pa_cons (pv 0) pa_nil)) (pe_and (pe_callB (cr_all rfl) (by rfl) T.all boot_all (pa_cons (pe_lc (own := [("node", 1)]) (by rfl) sc.nd (pi_seqK K (pv 0)) (blkOk_by (by kernel_rfl)) (fun _ _ _ _ _ => (pg_name (i := 1) sc.nd rfl (Or.inl rfl))) (fun _ _ _ _ _ => pts_nil) (fun _ _ _ _ _ => (pe_k c_is_node hr (by decide) (by rfl) (pa_cons (pv 1) pa_nil)))) pa_nil)) (pe_one (pe_k c_are_unlike hr (by decide) (by rfl) (pa_cons (pv 0) pa_nil))))))), fun x hp => ?_⟩
  obtain ⟨ns, b⟩ := x
  obtain ⟨h1, h2, h3⟩ := hp
  refine ht_ret (ev_and (ev_call (rSI b ns) (ea_cons (ev_var rfl) ea_nil) sq_ty) fun _ => ev_and (ev_cb (ea_cons (ev_lc0 (f := fun n => rIs (.int n)) (src_sq (ev_var rfl)) (small h3) fun n _ => ⟨_, _, tg_name, by simp, ev_call n (ea_cons (ev_var rfl) ea_nil) trivial⟩) ea_nil) vc_allF) fun _ => ev_call (.inl (ns, b)) (ea_cons (ev_var rfl) ea_nil) (by exact ⟨h2, h3⟩)) ?_
  show rBl (true && (ns.all (fun n => decide (0 ≤ n) && decide (n ≤ 99)) && true)) = rBl true
  rw [all_nodes h1]; rfl
theorem c_are_nodes (T : Tp K mg) : Kal P w K mg base 4 "are_nodes" ["value"] spAreNodes := by
  obtain ⟨⟨fd, F⟩, hm⟩ := T.at_ 8 "are_nodes" 22
  exact kal_of F hm (ok_are_nodes T F) (fun _ _ _ _ _ _ us hl => match us, hl with | [_], _ => rfl)
abbrev spEnds : Sp := Prm (fun x : (List Int × Bool) × List Int × Bool => [rSI x.1.2 x.1.1, rSI x.2.2 x.2.1]) (fun _ => []) (fun x => Nds x.2.1 ∧ 2 ≤ x.2.1.length ∧ ∀ y ∈ x.2.1, y ∈ x.1.1) (fun _ => rBl true)
theorem ok_are_ends (T : Tp K mg) {fd : FuncData} (F : FunD K "are_ends" "are_ends" (defArgs (top 23)) (defBody (top 23)) (defScope (top 23)) [] [] (He.ga K "are_ends") fd) : FnOk P w K mg base CX0 5 (He.ga K "are_ends") fd ["nodes", "value"] spEnds := by
  have sc : FnScope ["nodes", "value", "node"] ["nodes", "value"] (defScope (top 23)) := ⟨rfl, rfl, rfl, by decide +kernel, rfl, by decide +kernel, by decide +kernel⟩
  have c_are_nodes := c_are_nodes (P := P) (w := w) (base := base) T
  refine fn_prm F sc (fun _ => rfl) (fun _ => by first | exact List.nodup_nil | exact nd_fl | simp) fun cdv A outer s H E hr => ?_
  refine ⟨_, (pss_one (ps_ret (pe_and (pe_k c_are_nodes hr (by decide) (by rfl) (pa_cons (pv 1) pa_nil)) (pe_and (pe_cmpR op_ge (pe_callB call_len_seq (by rfl) T.len PySem.boot_len (pa_cons (pv 1) pa_nil)) pe_int (nomark _)) (pe_one (pe_callB (cr_all rfl) (by rfl) T.all boot_all (pa_cons (pe_lc (own := [("node", 2)]) (by rfl) sc.nd (pi_seqK K (pv 1)) (blkOk_by (by kernel_rfl)) (fun _ _ _ _ _ => (pg_name (i := 2) sc.nd rfl (Or.inl rfl))) (fun _ _ _ _ _ => pts_nil) (fun _ _ _ _ _ => (pe_cmpR (op_inK K) (pv 2) (pv 0) rfl))) pa_nil))))))), fun x hp => ?_⟩
  obtain ⟨⟨ns, b⟩, ts, b2⟩ := x
  obtain ⟨h1, h2, h3⟩ := hp
  have h2 : 2 ≤ ts.length := h2
  refine ht_ret (ev_and (ev_call (ts, b2) (ea_cons (ev_var rfl) ea_nil) h1) fun _ => ev_and (ev_op (ev_cb (ea_cons (ev_var rfl) ea_nil) vc_lenS) ev_c vo_I0) fun _ => ev_cb (ea_cons (ev_lc0 (f := fun n => rIs (.int n)) (src_sq (ev_var rfl)) (small h1.2.2) fun n _ => ⟨_, _, tg_name, by simp, ev_op (ev_var rfl) (ev_var rfl) vo_isS⟩) ea_nil) vc_allF) ?_
  show rBl _ = rBl true
  rw [decide_eq_true (by rw [List.length_map]; omega), all_of (f := fun n => decide (n ∈ ns)) fun n hn => decide_eq_true (h3 n hn)]; rfl
theorem c_are_ends (T : Tp K mg) : Kal P w K mg base 5 "are_ends" ["nodes", "value"] spEnds := by
  obtain ⟨⟨fd, F⟩, hm⟩ := T.at_ 9 "are_ends" 23
  exact kal_of F hm (ok_are_ends T F) (fun _ _ _ _ _ _ us hl => match us, hl with | [_, _], _ => rfl)
/-- an edge between nodes -/
def EdOk (ns : List Int) (dir : Bool) (e : Int × Int × Int) : Prop := (0 ≤ e.1 ∧ e.1 ≤ 99) ∧ (0 ≤ e.2.1 ∧ e.2.1 ≤ 99) ∧ e.1 ∈ ns ∧ e.2.1 ∈ ns ∧ e.1 ≠ e.2.1 ∧ (dir = false → e.1 < e.2.1) ∧ 1 ≤ e.2.2
abbrev spIsEdge : Sp := Prm (fun x : (List Int × Bool) × Bool × Int × Int × Int => [rSI x.1.2 x.1.1, rBl x.2.1, rEd x.2.2]) (fun _ => []) (fun x => EdOk x.1.1 x.2.1 x.2.2) (fun _ => rBl true)
theorem ok_is_edge (T : Tp K mg) {fd : FuncData} (F : FunD K "is_edge" "is_edge" (defArgs (top 24)) (defBody (top 24)) (defScope (top 24)) [] [] (He.ga K "is_edge") fd) : FnOk P w K mg base CX0 4 (He.ga K "is_edge") fd ["nodes", "directed", "value"] spIsEdge := by
  have sc : FnScope ["nodes", "directed", "value"] ["nodes", "directed", "value"] (defScope (top 24)) := ⟨rfl, rfl, rfl, by decide +kernel, rfl, by decide +kernel, by decide +kernel⟩
  have c_is_tuple_of := c_is_tuple_of (P := P) (w := w) (base := base) T
  have c_is_node := c_is_node (P := P) (w := w) (base := base) T
  have c_is_integer := c_is_integer (P := P) (w := w) (base := base) T
  refine fn_prm F sc (fun _ => rfl) (fun _ => by first | exact List.nodup_nil | exact nd_fl | simp) fun cdv A outer s H E hr => ?_
  refine ⟨_, (pss_cons (ps_if (PW.pt (pw_or (pt_not (pt_val (pe_k c_is_tuple_of hr (by decide) (by rfl) (pa_cons (pv 2) (pa_cons pe_int pa_nil))))) (pw_or (pt_not (pt_val (pe_k c_is_node hr (by decide) (by rfl) (pa_cons (pe_ix ix_tup (pv 2) pe_int (fun _ _ => rfl)) pa_nil)))) (pw_or1 (pt_not (pt_val (pe_k c_is_node hr (by decide) (by rfl) (pa_cons (pe_ix ix_tup (pv 2) pe_int (fun _ _ => rfl)) pa_nil)))))))) (pss_one (ps_ret pe_bl)) pss_nil)
      (pss_cons (ps_if (PW.pt (pw_or (pt_cmpR op_notIn_seq (pe_ix ix_tup (pv 2) pe_int (fun _ _ => rfl)) (pv 0) rfl) (pw_or (pt_cmpR op_notIn_seq (pe_ix ix_tup (pv 2) pe_int (fun _ _ => rfl)) (pv 0) rfl) (pw_or1 (pt_cmpR op_eq (pe_ix ix_tup (pv 2) pe_int (fun _ _ => rfl)) (pe_ix ix_tup (pv 2) pe_int (fun _ _ => rfl)) (nomark _)))))) (pss_one (ps_ret pe_bl)) pss_nil)
      (pss_one (ps_ret (pe_and (pe_or (pv 1) (pe_one (pe_cmpR op_lt (pe_ix ix_tup (pv 2) pe_int (fun _ _ => rfl)) (pe_ix ix_tup (pv 2) pe_int (fun _ _ => rfl)) (nomark _)))) (pe_and (pe_k c_is_integer hr (by decide) (by rfl) (pa_cons (pe_ix ix_tup (pv 2) pe_int (fun _ _ => rfl)) pa_nil)) (pe_one (pe_cmpR op_ge (pe_ix ix_tup (pv 2) pe_int (fun _ _ => rfl)) pe_int (nomark _))))))))), fun x hp => ?_⟩
  obtain ⟨⟨ns, b⟩, dir, u, v, c⟩ := x
  obtain ⟨⟨a1, a2⟩, ⟨b1, b2⟩, hu, hv, hne, hup, hc⟩ := hp
  have v0 : ∀ {O : Os} {t : Tys}, t[2]? = some (some (rEd (u, v, c))) → EvT t O (tOp (rIxT K) (tVar 2) (tC (.int 0))) (rInt u) := fun e => ev_op (ev_var e) ev_c (vo_ixT (j := 0) rfl rfl)
  have v1 : ∀ {O : Os} {t : Tys}, t[2]? = some (some (rEd (u, v, c))) → EvT t O (tOp (rIxT K) (tVar 2) (tC (.int 1))) (rInt v) := fun e => ev_op (ev_var e) ev_c (vo_ixT (j := 1) rfl rfl)
  have v2 : ∀ {O : Os} {t : Tys}, t[2]? = some (some (rEd (u, v, c))) → EvT t O (tOp (rIxT K) (tVar 2) (tC (.int 2))) (rInt c) := fun e => ev_op (ev_var e) ev_c (vo_ixT (j := 2) rfl rfl)
  refine hs_ifNo (EvB.to (eb_or (eb_not (eb_b (ev_call ([rInt u, rInt v, rInt c], 3) (ea_cons (ev_var rfl) (ea_cons ev_c ea_nil)) trivial))) fun _ => eb_or (eb_not (eb_b (ev_call u (ea_cons (v0 rfl) ea_nil) trivial))) fun _ => eb_not (eb_b (ev_call v (ea_cons (v1 rfl) ea_nil) trivial))) (by
    rw [decide_eq_true a1, decide_eq_true a2, decide_eq_true b1, decide_eq_true b2]; rfl)) ?_
  refine hs_ifNo (EvB.to (eb_or (eb_test (ev_op (v0 rfl) (ev_var rfl) vo_niS)) fun _ => eb_or (eb_test (ev_op (v1 rfl) (ev_var rfl) vo_niS)) fun _ => eb_test (ev_op (v0 rfl) (v1 rfl) vo_eqI)) (by
    rw [decide_eq_true hu, decide_eq_true hv, decide_eq_false hne]; rfl)) ?_
  refine ht_ret (ev_and (ev_or (ev_var rfl) fun _ => ev_op (v0 rfl) (v1 rfl) vo_I0) fun _ => ev_and (ev_call c (ea_cons (v2 rfl) ea_nil) trivial) fun _ => ev_op (v2 rfl) ev_c vo_I0) ?_
  show rBl _ = rBl true
  have h1 : (dir || decide (u < v)) = true := by
    cases dir with
    | true => rfl
    | false => rw [decide_eq_true (hup rfl)]; rfl
  rw [h1, decide_eq_true hc]; rfl
theorem c_is_edge (T : Tp K mg) : Kal P w K mg base 4 "is_edge" ["nodes", "directed", "value"] spIsEdge := by
  obtain ⟨⟨fd, F⟩, hm⟩ := T.at_ 10 "is_edge" 24
  exact kal_of F hm (ok_is_edge T F) (fun _ _ _ _ _ _ us hl => match us, hl with | [_, _, _], _ => rfl)
abbrev spAreEdges : Sp := Prm (fun x : (List Int × Bool) × Bool × Edges × Bool => [rSI x.1.2 x.1.1, rBl x.2.1, rSq x.2.2.2 (x.2.2.1.map rEd)]) (fun _ => []) (fun x => (∀ e ∈ x.2.2.1, EdOk x.1.1 x.2.1 e) ∧ (x.2.2.1.map fun e => (e.1, e.2.1)).Nodup ∧ x.2.2.1.length ≤ 1000) (fun _ => rBl true)
theorem ok_are_edges (T : Tp K mg) {fd : FuncData} (F : FunD K "are_edges" "are_edges" (defArgs (top 25)) (defBody (top 25)) (defScope (top 25)) [] [] (He.ga K "are_edges") fd) : FnOk P w K mg base CX0 5 (He.ga K "are_edges") fd ["nodes", "directed", "value"] spAreEdges := by
  have sc : FnScope ["nodes", "directed", "value", "capacity", "edge", "u", "v"] ["nodes", "directed", "value"] (defScope (top 25)) := ⟨rfl, rfl, rfl, by decide +kernel, rfl, by decide +kernel, by decide +kernel⟩
  have c_is_list := c_is_list (P := P) (w := w) (base := base) T
  have c_is_edge := c_is_edge (P := P) (w := w) (base := base) T
  have c_are_unlike := c_are_unlike (P := P) (w := w) (base := base) T
  refine fn_prm F sc (fun _ => rfl) (fun _ => by first | exact List.nodup_nil | exact nd_fl | simp) fun cdv A outer s H E hr => ?_
  refine ⟨_, (pss_cons (ps_if (PW.pt (pw_or (pt_not (pt_val (pe_k c_is_list hr (by decide) (by rfl) (pa_cons (pv 2) pa_nil)))) (pw_or1 (pt_not (pt_val (pe_callB (cr_all rfl) (by rfl) T.all boot_all (pa_cons (pe_lc (own := [("edge", 4)]) (by rfl) sc.nd (pi_seqK K (pv 2)) (blkOk_by (by kernel_rfl)) (fun _ _ _ _ _ => (pg_name (i := 4) sc.nd rfl (Or.inl rfl))) (fun _ _ _ _ _ => pts_nil) (fun _ _ _ _ _ => (pe_k c_is_edge hr (by decide) (by rfl) (pa_cons (pv 0) (pa_cons (pv 1) (pa_cons (pv 4) pa_nil)))))) pa_nil))))))) (pss_one (ps_ret pe_bl)) pss_nil)
      (pss_one (ps_ret (pe_k c_are_unlike hr (by decide) (by rfl) (pa_cons (pe_lc (own := [("u", 5), ("v", 6), ("capacity", 3)]) (by rfl) sc.nd (pi_seqK K (pv 2)) (blkOk_by (by kernel_rfl)) (fun _ _ _ _ _ => (pg_tupK K (n := 3) (by rfl) (pgs_cons (pg_name (i := 5) sc.nd rfl (Or.inl rfl)) (pgs_cons (pg_name (i := 6) sc.nd rfl (Or.inl rfl)) (pgs_cons (pg_name (i := 3) sc.nd rfl (Or.inl rfl)) pgs_nil))))) (fun _ _ _ _ _ => pts_nil) (fun _ _ _ _ _ => (pe_tup (pa_cons (pv 5) (pa_cons (pv 6) pa_nil))))) pa_nil))))), fun x hp => ?_⟩
  obtain ⟨⟨ns, b⟩, dir, es, b2⟩ := x
  obtain ⟨h1, h2, h3⟩ := hp
  have h3 : es.length ≤ 1000 := h3
  refine hs_ifNo (EvB.to (eb_or (eb_not (eb_b (ev_call (rSq b2 (es.map rEd)) (ea_cons (ev_var rfl) ea_nil) sq_ty))) fun _ => eb_not (eb_b (ev_cb (ea_cons (ev_lc0 (f := rEd) (r := fun _ => rBl true) (src_sq (ev_var rfl)) (small h3) fun e he => ⟨_, _, tg_name, by simp, ev_call ((ns, b), dir, e) (ea_cons (ev_var rfl) (ea_cons (ev_var rfl) (ea_cons (ev_var rfl) ea_nil))) (h1 e he)⟩) ea_nil) (vc_allF (f := fun _ => true))))) (by
    rw [all_of (f := fun _ => true) fun _ _ => rfl]; rfl)) ?_
  exact ht_ret (ev_call (.inr (es.map fun e => (e.1, e.2.1))) (ea_cons ((ev_lc0 (f := rEd) (r := fun e => rTI (prL (e.1, e.2.1))) (src_sq (ev_var rfl)) (small h3) fun e _ => ⟨_, _, tg_three (Ra := rInt e.1) (Rb := rInt e.2.1) (Rc := rInt e.2.2), by simp, ev_tup (Rs := [rInt e.1, rInt e.2.1]) (ea_cons (ev_var rfl) (ea_cons (ev_var rfl) ea_nil))⟩).to (by show rLst _ = rLst _; rw [List.map_map]; rfl)) ea_nil) (by exact ⟨h2, by rw [List.length_map]; exact h3⟩)) rfl
theorem c_are_edges (T : Tp K mg) : Kal P w K mg base 5 "are_edges" ["nodes", "directed", "value"] spAreEdges := by
  obtain ⟨⟨fd, F⟩, hm⟩ := T.at_ 11 "are_edges" 25
  exact kal_of F hm (ok_are_edges T F) (fun _ _ _ _ _ _ us hl => match us, hl with | [_, _, _], _ => rfl)
end
end K96
set_option Elab.async false
set_option linter.all false
set_option maxRecDepth 100000
set_option maxHeartbeats 4000000
/-! a network is made -/
namespace K96
open PySem PySem.Spec L2 Rz Cut
section
variable {P : Program} {w : World} {K : PySem.W.Frag} {mg : Str → Option Value} {base : Heap}
/-- what a network is made of: nodes, edges, terminals (each a tuple or a list), directed -/
structure ArgN where
  ns : List Int
  bn : Bool
  es : Edges
  be : Bool
  ts : List Int
  bt : Bool
  dir : Bool
structure PreN (x : ArgN) : Prop where
  nodes : Nds x.ns
  ends : Nds x.ts ∧ 2 ≤ x.ts.length ∧ ∀ y ∈ x.ts, y ∈ x.ns
  edges : ∀ e ∈ x.es, EdOk x.ns x.dir e
  nd : (x.es.map fun e => (e.1, e.2.1)).Nodup
  len : x.es.length ≤ 1000
theorem nd_map {α β : Type} {f : α → β} (inj : ∀ x y, f x = f y → x = y) {l : List α} (h : l.Nodup) : (l.map f).Nodup := List.pairwise_map.mpr (h.imp fun hne e => hne (inj _ _ e))
def tr3 (e : Int × Int × Int) : List Int := [e.1, e.2.1, e.2.2]
/-- the network that is made -/
structure MadeN (x : ArgN) (y : Nw) : Prop where
  ns : Rise x.ns y.ns
  es : y.es.Perm x.es
  lex : Lex (x.es.map tr3) (y.es.map tr3)
  ts : Rise x.ts y.ts
  dir : y.dir = x.dir
abbrev rsN (x : ArgN) : List Rp := [rSI x.bn x.ns, rSq x.be (x.es.map rEd), rSI x.bt x.ts, rBl x.dir]
abbrev spInit (K : PySem.W.Frag) : Sp := PrmIE (He.ga K "Network") rsN PreN MadeN (fun _ y => netF y)
theorem c_init (T : Tp K mg) : ∃ fd, FunD K "__init__" "Network.__init__" (defArgs (inClass (top 26) 0)) (defBody (inClass (top 26) 0)) (defScope (inClass (top 26) 0)) [.bl false] [] (He.ma K (He.ga K "Network") "__init__") fd ∧ FnOk P w K mg base CX0 6 (He.ma K (He.ga K "Network") "__init__") fd ["self", "nodes", "edges", "terminals", "directed"] (spInit K) := by
  obtain ⟨fd, F⟩ := T.d_Network_init
  refine ⟨fd, F, ?_⟩
  have sc : FnScope ["self", "nodes", "edges", "terminals", "directed", "capacity", "node", "u", "v"] ["self", "nodes", "edges", "terminals", "directed"] (defScope (inClass (top 26) 0)) := ⟨rfl, rfl, rfl, by decide +kernel, rfl, by decide +kernel, by decide +kernel⟩
  have c_are_nodes := c_are_nodes (P := P) (w := w) (base := base) T
  have c_are_ends := c_are_ends (P := P) (w := w) (base := base) T
  have c_are_edges := c_are_edges (P := P) (w := w) (base := base) T
  refine fn_prmM F sc (fun _ _ => rfl) (fun _ => rfl) fun cdv A outer s H E hr => ?_
  have hu := hu_of hr
  refine ⟨_,
-- N = ["self", "nodes", "edges", "terminals", "directed", "capacity", "node", "u", "v"]
(pss_cons (ps_if (pt_not (pt_val (pe_k c_are_nodes hr (by decide) (by rfl) (pa_cons (pv 1) pa_nil)))) (pss_one ps_never) pss_nil)
      (pss_cons (ps_if (pt_not (pt_val (pe_k c_are_ends hr (by decide) (by rfl) (pa_cons (pv 1) (pa_cons (pv 3) pa_nil))))) (pss_one ps_never) pss_nil)
      (pss_cons (ps_if (pt_not (pt_val (pe_callB call_isi (by rfl) T.isinstance boot_isi (pa_cons (pv 4) (pa_cons (pe_ty (by rfl) T.bool boot_bool) pa_nil))))) (pss_one ps_never) pss_nil)
      (pss_cons (ps_if (pt_not (pt_val (pe_k c_are_edges hr (by decide) (by rfl) (pa_cons (pv 1) (pa_cons (pv 4) (pa_cons (pv 2) pa_nil)))))) (pss_one ps_never) pss_nil)
      (pss_cons (ps_fld (pv 0) (pe_callTy call_tuple_of (by rfl) T.tuple boot_tup (pa_cons (pe_callB cr_sortedI (by rfl) T.sorted boot_sorted (pa_cons (pe_callTy call_list_of (by rfl) T.list boot_lst (pa_cons (pv 1) pa_nil)) pa_nil)) pa_nil)) rfl)
      (pss_cons (ps_fld (pv 0) (pe_callTy call_tuple_of (by rfl) T.tuple boot_tup (pa_cons (pe_callB (cr_sortedLx K) (by rfl) T.sorted boot_sorted (pa_cons (pe_callTy call_list_of (by rfl) T.list boot_lst (pa_cons (pv 2) pa_nil)) pa_nil)) pa_nil)) rfl)
      (pss_cons (ps_fld (pv 0) (pe_callTy call_tuple_of (by rfl) T.tuple boot_tup (pa_cons (pe_callB cr_sortedI (by rfl) T.sorted boot_sorted (pa_cons (pe_callTy call_list_of (by rfl) T.list boot_lst (pa_cons (pv 3) pa_nil)) pa_nil)) pa_nil)) rfl)
      (pss_cons (ps_fld (pv 0) (pe_callTy call_tuple_of (by rfl) T.tuple boot_tup (pa_cons (pe_lc (own := [("node", 6)]) (by rfl) sc.nd (pi_tup (pe_fld (pv 0) rfl)) (blkOk_by (by kernel_rfl)) (fun _ _ _ _ _ => (pg_name (i := 6) sc.nd rfl (Or.inl rfl))) (fun _ _ _ _ _ => (pts_one (pt_cmpR (op_ninK K) (pv 6) (pv 3) rfl))) (fun _ _ _ _ _ => (pv 6))) pa_nil)) rfl)
      (pss_cons (ps_fld (pv 0) (pv 4) rfl)
      (pss_one (ps_fld (pv 0) (pe_dcT hu (own := [("u", 7), ("v", 8), ("capacity", 5)]) (by rfl) sc.nd (pi_seqK K (pv 2)) (blkOk_by (by kernel_rfl)) (fun _ _ _ _ _ => (pg_tupK K (n := 3) (by rfl) (pgs_cons (pg_name (i := 7) sc.nd rfl (Or.inl rfl)) (pgs_cons (pg_name (i := 8) sc.nd rfl (Or.inl rfl)) (pgs_cons (pg_name (i := 5) sc.nd rfl (Or.inl rfl)) pgs_nil))))) (fun _ _ _ _ _ => (pe_tup (pa_cons (pv 7) (pa_cons (pv 8) pa_nil)))) (fun _ _ _ _ _ => (pv 5))) rfl)))))))))))
  , fun y p hp nd => ?_⟩
  obtain ⟨⟨ns, bn, es, be, ts, bt, dir⟩, dx⟩ := y
  obtain ⟨h1, h2, h3, h4, h5⟩ := hp
  have h5 : es.length ≤ 1000 := h5
  refine hs_ifNo (EvB.to (eb_not (eb_b (ev_call (ns, bn) (ea_cons (ev_var rfl) ea_nil) h1))) rfl) ?_
  refine hs_ifNo (EvB.to (eb_not (eb_b (ev_call ((ns, bn), ts, bt) (ea_cons (ev_var rfl) (ea_cons (ev_var rfl) ea_nil)) h2))) rfl) ?_
  refine hs_ifNo (EvB.to (eb_not (eb_b (ev_cb (ea_cons (ev_var rfl) (ea_cons ev_c ea_nil)) (vc_isi ty_bl rfl)))) rfl) ?_
  refine hs_ifNo (EvB.to (eb_not (eb_b (ev_call ((ns, bn), dir, es, be) (ea_cons (ev_var rfl) (ea_cons (ev_var rfl) (ea_cons (ev_var rfl) ea_nil))) ⟨h3, h4, h5⟩))) rfl) ?_
  refine hs_fldE (k := 0) (P := Rise ns) (Rb := fun m => rTI m) (ev_cb (ea_cons (ev_cb (ea_cons (ev_cb (ea_cons (ev_var rfl) ea_nil) vc_listS) ea_nil) vc_sortedI) ea_nil) (VC.ex fun _ _ => vc_tupleL)) (ev_var rfl) rfl (.inr (by simp)) T.cls_Network T.no_Network_nodes (by decide) fun ns' hn => ?_
  refine hs_fldE (k := 0) (P := fun l : Edges => l.Perm es ∧ Lex (es.map tr3) (l.map tr3)) (Rb := fun l => rTup (l.map rEd)) ((ev_cb (ea_cons (ev_cb (ea_cons (EvT.to (R := rLst (es.map rEd)) (ev_cb (ea_cons (ev_var rfl) ea_nil) vc_listS) (R' := rLst ((es.map tr3).map rTI)) (by rw [List.map_map]; rfl)) ea_nil) (vc_sortedLx fun ns hns => by
    obtain ⟨e, _, rfl⟩ := List.mem_map.mp hns
    simp [tr3])) ea_nil) (VC.ex fun _ _ => vc_tupleL)).sub fun v G ⟨m, hm, hv⟩ => ?_) (ev_var rfl) rfl (.inr (by simp)) T.cls_Network T.no_Network_edges (show 1 < 1000 by decide) fun es' he => ?_
  · obtain ⟨l, h1, rfl⟩ := perm_map_inv hm.1 es rfl
    refine ⟨l, ⟨h1, hm⟩, ?_⟩
    have hv : (rTup ((l.map tr3).map rTI)).p v G := hv
    rw [List.map_map] at hv; exact hv
  refine hs_fldE (k := 0) (P := Rise ts) (Rb := fun m => rTI m) (ev_cb (ea_cons (ev_cb (ea_cons (ev_cb (ea_cons (ev_var rfl) ea_nil) vc_listS) ea_nil) vc_sortedI) ea_nil) (VC.ex fun _ _ => vc_tupleL)) (ev_var rfl) rfl (.inr (by simp)) T.cls_Network T.no_Network_terminals (show 2 < 1000 by decide) fun ts' ht => ?_
  have hl' : ns'.length ≤ 1000 := by rw [hn.1.length_eq]; exact h1.2.2
  have hin : less ns' ts = less ns' ts' := List.filter_congr fun y _ => by
    congr 1
    exact decide_eq_decide.mpr ht.1.mem_iff.symm
  refine hs_fld (k := 0) (R := rTI (less ns' ts')) (EvT.to (ev_cb (ea_cons (ev_lc (c := fun y => !decide (y ∈ ts)) (src_tup (ev_fldO (ev_var rfl) List.mem_cons_self T.cls_Network T.no_Network_nodes rfl)) (small hl') fun y _ => ⟨_, _, tg_name, by simp, eb_test (ev_op (ev_var rfl) (ev_var rfl) vo_niS), fun _ => ev_var rfl⟩) ea_nil) vc_tupleL) (congrArg rTI hin)) (ev_var rfl) rfl (.inr (by simp)) T.cls_Network T.no_Network_inner (show 3 < 1000 by decide) ?_
  refine hs_fld (k := 0) (R := rBl dir) (ev_var rfl) (ev_var rfl) rfl (.inr (by simp)) T.cls_Network T.no_Network_directed (show 4 < 1000 by decide) ?_
  refine ht_fld (k := 0) (R := rCaps es') (EvT.sub (ev_new (en_dcT (k := fun e : Int × Int × Int => kP (e.1, e.2.1)) (r := fun e => rInt e.2.2) (L := []) (src_sq (ev_var rfl)).w (by simp) (small h5) fun e _ => ⟨_, _, tg_three (Ra := rInt e.1) (Rb := rInt e.2.1) (Rc := rInt e.2.2), by simp, ev_kP (ev_var rfl) (ev_var rfl), ev_var rfl⟩) oc_dT) fun v G hv => ?_) (ev_var rfl) rfl (.inr (by simp)) T.cls_Network T.no_Network__capacities (show 5 < 1000 by decide) ⟨rfl, _, ⟨⟨ns', es', ts', dir⟩, ⟨hn, he.1, he.2, ht, rfl⟩, rfl⟩, List.mem_cons_self⟩
  refine ⟨es.map fun e => ((e.1, e.2.1), e.2.2), ?_, ?_⟩
  · show ((es.map fun e => ((e.1, e.2.1), e.2.2)).map ceE).Perm es'
    rw [List.map_map, show (ceE ∘ fun e : Int × Int × Int => ((e.1, e.2.1), e.2.2)) = id from rfl, List.map_id]; exact he.1.symm
  · have nd : ((([] : List (List Key × Rp)) ++ es.map fun e => (kP (e.1, e.2.1), rInt e.2.2)).map (·.1)).Nodup := by
      rw [List.nil_append, List.map_map]
      have h6 := nd_map kP_inj h4
      rw [List.map_map] at h6
      exact h6
    rw [pkAll_nd nd, List.nil_append] at hv
    show (rDT (mP fI (es.map fun e => ((e.1, e.2.1), e.2.2)))).p v G
    unfold mP
    rw [List.map_map]; exact hv
theorem c_Network4 (T : Tp K mg) : C8.Mak P w K mg base 6 "Network" (He.ga K "Network") (spInit K) [] := by
  obtain ⟨fd, F, ok⟩ := c_init (P := P) (w := w) (base := base) T
  obtain ⟨ds, hd, hb⟩ := F.binds1 (ps := ["self", "nodes", "edges", "terminals", "directed"]) 5 1 (by simp) rfl fun T kV doc pm an cdv ct us its h1 h2 => match us, h1, its, h2 with
    | [_, _, _, _, _], _, [_], _ => ⟨_, rfl, rfl⟩
  exact ⟨_, fd, _, ds, T.mkr_Network, ok, T.mg_Network, hb, hd⟩
theorem kw_Network_directed_terminals_edges_nodes_0 (T : Tp K mg) : ∃ (fd : FuncData) (g : List Value → List Value → List Value), FnOk P w K mg base CX0 6 (He.ma K (He.ga K "Network") "__init__") fd ["self", "nodes", "edges", "terminals", "directed"] (spInit K) ∧ KBn K fd ["self", "nodes", "edges", "terminals", "directed"] 1 ["directed", "terminals", "edges", "nodes"] g (fun us ws => us ++ pick [3, 2, 1, 0] (ws ++ [L2.V.bl false])) := by
  obtain ⟨fd, F, ok⟩ := c_init (P := P) (w := w) (base := base) T
  obtain ⟨its, hb⟩ := F.kbindsD (ps := ["self", "nodes", "edges", "terminals", "directed"]) 1 ["directed", "terminals", "edges", "nodes"] (fun us its ws => us ++ pick [3, 2, 1, 0] (ws ++ its)) (by simp) (fun r1 r2 r3 => r1.append (vals_pick (r3.append r2) _)) fun T kV doc pm an cdv ct us its ws h1 h2 h3 => match us, h1, its, h2, ws, h3 with
    | [_], _, [_], _, [_, _, _, _], _ => ⟨_, rfl, rfl⟩
  exact ⟨fd, _, ok, hb⟩
/-- what is made of what keeps within bounds -/
theorem MadeN.ok {x : ArgN} {y : Nw} (h : MadeN x y) (p : PreN x) (h1 : x.ns.length ≤ 60) (h2 : x.es.length ≤ 400) (h3 : x.ts.length ≤ 9) : NwOk y := by
  obtain ⟨ns, es, ts, dir⟩ := y
  obtain ⟨a1, a2, a3, a4, rfl⟩ := h
  have a1 : Rise x.ns ns := a1
  have a2 : es.Perm x.es := a2
  have a4 : Rise x.ts ts := a4
  have lt : ∀ {l m : List Int}, Rise l m → l.Nodup → m.Pairwise (· < ·) := fun r nd => List.Pairwise.imp₂ (fun a b h1 h2 => by
    have h1 : a ≤ b := h1
    have h2 : a ≠ b := h2
    show a < b
    omega) r.2 (r.1.nodup_iff.mpr nd)
  have inN : ∀ {k : Int}, k ∈ x.ns → k ∈ ns := fun h => a1.1.mem_iff.mpr h
  refine ⟨⟨fun n hn => p.nodes.1 n (a1.1.mem_iff.mp hn), lt a1 p.nodes.2.1, by show ns.length ≤ 1000; rw [a1.1.length_eq]; exact p.nodes.2.2⟩, by show ns.length ≤ 60; rw [a1.1.length_eq]; exact h1, ⟨(a2.map _).nodup_iff.mpr p.nd, fun e he => ?_, fun e he => ?_, fun d e he => ?_, fun e he => ?_⟩, by show es.length ≤ 400; rw [a2.length_eq]; exact h2,
    ⟨fun n hn => p.ends.1.1 n (a4.1.mem_iff.mp hn), lt a4 p.ends.1.2.1, by show ts.length ≤ 1000; rw [a4.1.length_eq]; exact p.ends.1.2.2⟩, fun k hk => inN (p.ends.2.2 k (a4.1.mem_iff.mp hk)), by show 2 ≤ ts.length ∧ ts.length ≤ 9; rw [a4.1.length_eq]; exact ⟨p.ends.2.1, h3⟩⟩
  · have z := p.edges e (a2.mem_iff.mp he)
    exact ⟨inN z.2.2.1, inN z.2.2.2.1⟩
  · exact (p.edges e (a2.mem_iff.mp he)).2.2.2.2.1
  · exact (p.edges e (a2.mem_iff.mp he)).2.2.2.2.2.1 d
  · exact (p.edges e (a2.mem_iff.mp he)).2.2.2.2.2.2
end
end K96
set_option Elab.async false
set_option linter.all false
set_option maxRecDepth 100000
set_option maxHeartbeats 4000000
/-! what is asked of a network -/
namespace K96
open PySem PySem.Spec L2 Rz Cut
section
variable {P : Program} {w : World} {K : PySem.W.Frag} {mg : Str → Option Value} {base : Heap}
/-! ### unique answers -/
theorem lex_anti : ∀ {a b : List Int}, HT.lexLt a b = false → HT.lexLt b a = false → a = b
  | [], [], _, _ => rfl
  | [], y :: b, h, _ => by rw [HT.lexLt_nil_cons] at h; cases h
  | x :: a, [], _, h => by rw [HT.lexLt_nil_cons] at h; cases h
  | x :: a, y :: b, h1, h2 => by
    rw [HT.lexLt_cons] at h1 h2
    by_cases e : x = y
    · subst e
      rw [if_pos rfl] at h1 h2
      rw [lex_anti h1 h2]
    · rw [if_neg e] at h1
      rw [if_neg (Ne.symm e)] at h2
      have := of_decide_eq_false h1
      have := of_decide_eq_false h2
      exfalso; omega
theorem sorted_uniq {α : Type} {le : α → α → Prop} (anti : ∀ a b, le a b → le b a → a = b) : ∀ {l m : List α}, l.Perm m → l.Pairwise le → m.Pairwise le → l = m
  | [], m, h, _, _ => (List.Perm.nil_eq h)
  | x :: l, [], h, _, _ => absurd h.length_eq (by simp)
  | x :: l, y :: m, h, h1, h2 => by
    have e : x = y := by
      have hx : x ∈ y :: m := h.mem_iff.mp List.mem_cons_self
      have hy : y ∈ x :: l := h.mem_iff.mpr List.mem_cons_self
      rcases List.mem_cons.mp hx with e | hx
      · exact e
      · rcases List.mem_cons.mp hy with e | hy
        · exact e.symm
        · exact anti x y ((List.pairwise_cons.mp h1).1 y hy) ((List.pairwise_cons.mp h2).1 x hx)
    subst e
    rw [sorted_uniq anti (List.Perm.cons_inv h) (List.pairwise_cons.mp h1).2 (List.pairwise_cons.mp h2).2]
theorem lex_uniq {n a b : List (List Int)} (ha : Lex n a) (hb : Lex n b) : a = b := sorted_uniq (le := fun x y => HT.lexLt y x = false) (fun x y h1 h2 => lex_anti h2 h1) (ha.1.trans hb.1.symm) ha.2 hb.2
theorem rise_uniq {n a b : List Int} (ha : Rise n a) (hb : Rise n b) : a = b := sorted_uniq (le := fun x y : Int => x ≤ y) (fun x y h1 h2 => Int.le_antisymm h1 h2) (ha.1.trans hb.1.symm) ha.2 hb.2
noncomputable def lexOf (n : List (List Int)) : List (List Int) := Classical.epsilon (Lex n)
theorem lexOf_eq {n a : List (List Int)} (h : Lex n a) : lexOf n = a := lex_uniq (Classical.epsilon_spec (p := Lex n) ⟨a, h⟩) h
theorem least_uniq {x : Nw} {src snk A B A' B' : List Int} (h : Least x src snk A B) (h' : Least x src snk A' B') : A = A' ∧ B = B' := by
  obtain ⟨_, e1, e2⟩ := h.pair.uniq h'.pair
  obtain ⟨p, hp⟩ := h.fa
  obtain ⟨q, hq⟩ := h.fb
  obtain ⟨p', hp'⟩ := h'.fa
  obtain ⟨q', hq'⟩ := h'.fb
  have key : ∀ {C D : List Int} {r r' : Int → Bool}, C = x.ns.filter r → D = x.ns.filter r' → (∀ y ∈ x.ns, inB C y = inB D y) → C = D := fun {C D r r'} hC hD e => by
    rw [hC, hD]
    refine List.filter_congr fun y hy => ?_
    have := e y hy
    rw [hC, hD, inB_filter hy, inB_filter hy] at this
    exact this
  exact ⟨key hp hp' e1, key hq hq' e2⟩
/-- the smallest, the largest least side for s -/
noncomputable def bestOf (x : Nw) (s : List Int) : List Int × List Int := Classical.epsilon fun ab : List Int × List Int => Least x s (less x.ts s) ab.1 ab.2
theorem bestOf_eq {x : Nw} {s A B : List Int} (h : Least x s (less x.ts s) A B) : bestOf x s = (A, B) := by
  have h2 := Classical.epsilon_spec (p := fun ab : List Int × List Int => Least x s (less x.ts s) ab.1 ab.2) ⟨(A, B), h⟩
  obtain ⟨e1, e2⟩ := least_uniq h2 h
  exact Prod.ext e1 e2
noncomputable def vOf (x : Nw) (s : List Int) : Int := Classical.epsilon (IsMin x.ns s (less x.ts s) (cutp x.dir x.es))
theorem vOf_eq {x : Nw} {s : List Int} {v : Int} (h : IsMin x.ns s (less x.ts s) (cutp x.dir x.es) v) : vOf x s = v := (Classical.epsilon_spec (p := IsMin x.ns s (less x.ts s) (cutp x.dir x.es)) ⟨v, h⟩).uniq h
theorem Least.min {x : Nw} {src snk A B : List Int} (h : Least x src snk A B) : IsMin x.ns src snk (cutp x.dir x.es) (cutp x.dir x.es (inB A)) := ⟨⟨_, h.pair.pa, rfl⟩, h.pair.least⟩
/-! ### parts -/
structure PartOk (ts s : List Int) : Prop where
  nodes : NodesOk s
  sub : ∀ n ∈ s, n ∈ ts
  low : 1 ≤ s.length
  high : s.length < ts.length
theorem less_mem {a b : List Int} {n : Int} : n ∈ less a b ↔ n ∈ a ∧ n ∉ b := by
  unfold less
  rw [List.mem_filter]; simp
theorem ends_of {x : Nw} {s : List Int} (ok : NwOk x) (h : PartOk x.ts s) : Ends x s (less x.ts s) :=
  ⟨rising_nd h.nodes.2.1, (rising_nd ok.terms.2.1).filter _, fun y hy => ok.sub y (h.sub y hy), fun y hy => ok.sub y (less_mem.mp hy).1, fun y hy hz => (less_mem.mp hz).2 hy⟩
abbrev ArgS := Nw × List Int
abbrev spNodesOf (K : PySem.W.Frag) : Sp := Prm (fun x : ArgS => [rNet K x.1, rTI x.2]) (fun _ => []) (fun x => NodesOk x.2 ∧ ∀ y ∈ x.2, y ∈ x.1.ns) (fun _ => rBl true)
theorem ok_are_nodes_of (T : Tp K mg) {fd : FuncData} (F : FunD K "are_nodes_of" "are_nodes_of" (defArgs (top 42)) (defBody (top 42)) (defScope (top 42)) [] [] (He.ga K "are_nodes_of") fd) : FnOk P w K mg base CX0 5 (He.ga K "are_nodes_of") fd ["network", "value"] (spNodesOf K) := by
  have sc : FnScope ["network", "value", "node"] ["network", "value"] (defScope (top 42)) := ⟨rfl, rfl, rfl, by decide +kernel, rfl, by decide +kernel, by decide +kernel⟩
  have c_is_nodes := c_is_nodes (P := P) (w := w) (base := base) T
  refine fn_prm F sc (fun _ => rfl) (fun _ => by first | exact List.nodup_nil | exact nd_fl | simp) fun cdv A outer s H E hr => ?_
  refine ⟨_, (pss_one (ps_ret (pe_and (pe_k c_is_nodes hr (by decide) (by rfl) (pa_cons (pv 1) pa_nil)) (pe_one (pe_callB (cr_all rfl) (by rfl) T.all boot_all (pa_cons (pe_lc (own := [("node", 2)]) (by rfl) sc.nd (pi_tup (pv 1)) (blkOk_by (by kernel_rfl)) (fun _ _ _ _ _ => (pg_name (i := 2) sc.nd rfl (Or.inl rfl))) (fun _ _ _ _ _ => pts_nil) (fun _ _ _ _ _ => (pe_cmpR (op_inK K) (pv 2) (pe_fldK K (pv 0) rfl) rfl))) pa_nil)))))), fun y hp => ?_⟩
  obtain ⟨x, v⟩ := y
  obtain ⟨h1, h2⟩ := hp
  refine ht_ret (ev_and (ev_call v (ea_cons (ev_var rfl) ea_nil) h1) fun _ => ev_cb (ea_cons (ev_lc0 (src_tup (ev_var rfl)) (small h1.2.2) fun n _ => ⟨_, _, tg_name, by simp, ev_op (ev_var rfl) (f_nodes T (ev_var rfl)) vo_isT⟩) ea_nil) vc_allF) ?_
  show rBl _ = rBl true
  rw [all_of (f := fun n => decide (n ∈ x.ns)) fun n hn => decide_eq_true (h2 n hn)]; rfl
theorem c_are_nodes_of (T : Tp K mg) : Kal P w K mg base 5 "are_nodes_of" ["network", "value"] (spNodesOf K) := by
  obtain ⟨⟨fd, F⟩, hm⟩ := T.at_ 23 "are_nodes_of" 42
  exact kal_of F hm (ok_are_nodes_of T F) (fun _ _ _ _ _ _ us hl => match us, hl with | [_, _], _ => rfl)
abbrev spTerms : Sp := Prm (fun ts : List Int => [rTI ts]) (fun _ => []) (fun ts => NodesOk ts ∧ 2 ≤ ts.length ∧ ts.length ≤ 9) (fun _ => rBl true)
abbrev spCheckT : Sp := Prm (fun ts : List Int => [rTI ts]) (fun _ => []) (fun ts => NodesOk ts ∧ 2 ≤ ts.length ∧ ts.length ≤ 9) (fun _ => rNon)
abbrev spPartOf : Sp := Prm (fun x : List Int × Int => [rTI x.1, rInt x.2]) (fun _ => []) (fun x => x.1.length ≤ 1000) (fun x => rTI (partOf x.1 x.2))
noncomputable def setsOf (ts : List Int) : List (List Int) := lexOf (partsAll ts)
theorem part_of_sel {ts s : List Int} (h : NodesOk ts) (hs : s ∈ partsAll ts) : PartOk ts s := by
  obtain ⟨h1, h2, h3⟩ := parts_ok hs
  exact ⟨⟨fun n hn => h.1 n (h1.subset hn), h.2.1.sublist h1, Nat.le_trans h1.length_le h.2.2⟩, fun n hn => h1.subset hn, h2, h3⟩
theorem en_lc0 {t : Tys} {O : Os} {wi : TI} {g : TG} {te : TE} {vs : List Nat} {α : Type} {xs : List α} {f r : α → Rp} (hl : SrcT t O wi (xs.map f)) (hz : xs.length ≤ sizeLine)
    (hs : ∀ x, x ∈ xs → ∃ t2 us, TgT g (f x) (wt t vs) t2 us ∧ (∀ u ∈ us, u ∈ vs) ∧ EvT t2 O te (r x)) : EvN t O (tLc wi g tYes te vs) (.lst (xs.map r)) := by
  have h := en_lc (c := fun _ => true) (tt := tYes) (te := te) (r := r) hl hz fun x hx => by
    obtain ⟨t2, us, h1, h2, h3⟩ := hs x hx
    exact ⟨t2, us, h1, h2, eb_yes, fun _ => h3⟩
  rw [List.filter_eq_self.mpr fun _ _ => rfl] at h
  exact h
noncomputable abbrev spSets : Sp := Prm (fun ts : List Int => [rTI ts]) (fun _ => []) (fun ts => NodesOk ts ∧ 2 ≤ ts.length ∧ ts.length ≤ 9) (fun ts => rLst ((setsOf ts).map rTI))
theorem two_pow {n : Nat} (h : n ≤ 9) : 2 ^ n ≤ 512 := Nat.pow_le_pow_right (by decide) h
abbrev spCheckS (K : PySem.W.Frag) : Sp := Prm (fun x : ArgS => [rNet K x.1, rTI x.2]) (fun _ => []) (fun x => PartOk x.1.ts x.2) (fun _ => rNon)
theorem ok_check_some (T : Tp K mg) {fd : FuncData} (F : FunD K "check_some" "check_some" (defArgs (top 55)) (defBody (top 55)) (defScope (top 55)) [] [] (He.ga K "check_some") fd) : FnOk P w K mg base CX0 6 (He.ga K "check_some") fd ["network", "some"] (spCheckS K) := by
  have sc : FnScope ["network", "some"] ["network", "some"] (defScope (top 55)) := ⟨rfl, rfl, rfl, by decide +kernel, rfl, by decide +kernel, by decide +kernel⟩
  have c_is_part := c_is_part (P := P) (w := w) (base := base) T
  refine fn_prm F sc (fun _ => rfl) (fun _ => by first | exact List.nodup_nil | exact nd_fl | simp) fun cdv A outer s H E hr => ?_
  refine ⟨_, (pss_one (ps_if (pt_not (pt_val (pe_k c_is_part hr (by decide) (by rfl) (pa_cons (pe_fld (pv 0) rfl) (pa_cons (pv 1) pa_nil))))) (pss_one ps_never) pss_nil)), fun y hp => ?_⟩
  obtain ⟨x, s⟩ := y
  have hp : PartOk x.ts s := hp
  exact ht_ifNo (EvB.to (eb_not (eb_b (ev_call (x.ts, s) (ea_cons (f_terms T (ev_var rfl)) (ea_cons (ev_var rfl) ea_nil)) ⟨hp.nodes, hp.sub, hp.low, hp.high⟩))) rfl) rfl
theorem c_check_some (T : Tp K mg) : Kal P w K mg base 6 "check_some" ["network", "some"] (spCheckS K) := by
  obtain ⟨⟨fd, F⟩, hm⟩ := T.at_ 33 "check_some" 55
  exact kal_of F hm (ok_check_some T F) (fun _ _ _ _ _ _ us hl => match us, hl with | [_, _], _ => rfl)
def PreS (x : ArgS) : Prop := NwOk x.1 ∧ PartOk x.1.ts x.2
noncomputable abbrev rBest (x : ArgS) : Rp := rTup [rTI (bestOf x.1 x.2).1, rTI (bestOf x.1 x.2).2]
theorem ev_best {t : Tys} {O : Os} {te : TE} {x : Nw} {s : List Int} (h : EvT t O te (rLeast2 (x, s, less x.ts s))) : EvT t O te (rBest (x, s)) := h.sub fun v G ⟨ab, hab, hv⟩ => by
  have e := bestOf_eq (x := x) (s := s) hab
  show (rTup [rTI (bestOf x s).1, rTI (bestOf x s).2]).p v G
  rw [e]; exact hv
noncomputable abbrev spValue (K : PySem.W.Frag) : Sp := Prm (fun x : ArgS => [rNet K x.1, rTI x.2]) (fun _ => []) PreS (fun x => rInt (vOf x.1 x.2))
theorem ok_value_of (T : Tp K mg) {fd : FuncData} (F : FunD K "value_of" "value_of" (defArgs (top 56)) (defBody (top 56)) (defScope (top 56)) [] [] (He.ga K "value_of") fd) : FnOk P w K mg base CX0 5 (He.ga K "value_of") fd ["network", "some"] (spValue K) := by
  have sc : FnScope ["network", "some"] ["network", "some"] (defScope (top 56)) := ⟨rfl, rfl, rfl, by decide +kernel, rfl, by decide +kernel, by decide +kernel⟩
  have c_capacity_of := c_capacity_of (P := P) (w := w) (base := base) T
  have c_nodes_of_least := c_nodes_of_least (P := P) (w := w) (base := base) T
  have c_others := c_others (P := P) (w := w) (base := base) T
  refine fn_prm F sc (fun _ => rfl) (fun _ => by first | exact List.nodup_nil | exact nd_fl | simp) fun cdv A outer s H E hr => ?_
  refine ⟨_, (pss_one (ps_ret (pe_k c_capacity_of hr (by decide) (by rfl) (pa_cons (pv 0) (pa_cons (pe_ix ix_tup (pe_k c_nodes_of_least hr (by decide) (by rfl) (pa_cons (pv 0) (pa_cons (pv 1) (pa_cons (pe_k c_others hr (by decide) (by rfl) (pa_cons (pe_fld (pv 0) rfl) (pa_cons (pv 1) pa_nil))) pa_nil)))) pe_int (fun _ _ => rfl)) pa_nil))))), fun y hp => ?_⟩
  obtain ⟨x, s⟩ := y
  obtain ⟨ok, hs⟩ := hp
  have ok : NwOk x := ok
  have hs : PartOk x.ts s := hs
  refine ht_ret (R := rInt (vOf x s)) (EvT.sub (ev_callX (Z := fun z : Nw × List Int => z.1 = x ∧ ∃ B, Least x s (less x.ts s) z.2 B) (ea_cons (ev_var rfl) (ea_cons (ev_op (ev_call (x, s, less x.ts s) (ea_cons (ev_var rfl) (ea_cons (ev_var rfl) (ea_cons (ev_call (x.ts, s) (ea_cons (f_terms T (ev_var rfl)) (ea_cons (ev_var rfl) ea_nil)) ok.terms.2.2) ea_nil))) ⟨ok, ends_of ok hs⟩) ev_c (VO.exL fun z hz => VO.intro (P := fun A => ∃ B, Least x s (less x.ts s) A B) (Rx := rTI) z.1 ⟨z.2, hz⟩ (vo_ixT (j := 0) rfl rfl))) ea_nil)) (fun vs G h => ?_) (fun z hz => by rw [hz.1]; exact ok.elen) fun _ _ => by simp) fun v G hv => ?_) rfl
  · match vs, h with
    | [v1, v2], ⟨h1, ⟨A, hA, h2⟩, _⟩ => exact ⟨(x, A), ⟨rfl, hA⟩, h1, h2, trivial⟩
  · obtain ⟨⟨z1, z2⟩, ⟨rfl, B, hL⟩, hv⟩ := hv
    show v = L2.V.int (vOf z1 s)
    rw [vOf_eq hL.min]; exact hv
theorem c_value_of (T : Tp K mg) : Kal P w K mg base 5 "value_of" ["network", "some"] (spValue K) := by
  obtain ⟨⟨fd, F⟩, hm⟩ := T.at_ 34 "value_of" 56
  exact kal_of F hm (ok_value_of T F) (fun _ _ _ _ _ _ us hl => match us, hl with | [_, _], _ => rfl)
theorem ok_cut_value (T : Tp K mg) {fd : FuncData} (F : FunD K "cut_value" "cut_value" (defArgs (top 57)) (defBody (top 57)) (defScope (top 57)) [] [] (He.ga K "cut_value") fd) : FnOk P w K mg base CX0 7 (He.ga K "cut_value") fd ["network", "some"] (spValue K) := by
  have sc : FnScope ["network", "some"] ["network", "some"] (defScope (top 57)) := ⟨rfl, rfl, rfl, by decide +kernel, rfl, by decide +kernel, by decide +kernel⟩
  have c_check_some := c_check_some (P := P) (w := w) (base := base) T
  have c_value_of := c_value_of (P := P) (w := w) (base := base) T
  refine fn_prm F sc (fun _ => rfl) (fun _ => by first | exact List.nodup_nil | exact nd_fl | simp) fun cdv A outer s H E hr => ?_
  refine ⟨_, (pss_cons (ps_expr (pe_k c_check_some hr (by decide) (by rfl) (pa_cons (pv 0) (pa_cons (pv 1) pa_nil))))
      (pss_one (ps_ret (pe_k c_value_of hr (by decide) (by rfl) (pa_cons (pv 0) (pa_cons (pv 1) pa_nil)))))), fun y hp => ?_⟩
  obtain ⟨x, s⟩ := y
  exact hs_drop (ev_call (x, s) (ea_cons (ev_var rfl) (ea_cons (ev_var rfl) ea_nil)) hp.2) (ht_ret (ev_call (x, s) (ea_cons (ev_var rfl) (ea_cons (ev_var rfl) ea_nil)) hp) rfl)
theorem c_cut_value (T : Tp K mg) : Kal P w K mg base 7 "cut_value" ["network", "some"] (spValue K) := by
  obtain ⟨⟨fd, F⟩, hm⟩ := T.at_ 35 "cut_value" 57
  exact kal_of F hm (ok_cut_value T F) (fun _ _ _ _ _ _ us hl => match us, hl with | [_, _], _ => rfl)
noncomputable abbrev spSides (K : PySem.W.Frag) : Sp := Prm (fun x : ArgS => [rNet K x.1, rTI x.2]) (fun _ => []) PreS rBest
abbrev ArgM := Nw × List Int × List Int
def atTs (x : Nw) (v : List Int) : List Int := v.filter fun y => decide (y ∈ x.ts)
abbrev spIsSide (K : PySem.W.Frag) : Sp := Prm (fun x : ArgM => [rNet K x.1, rTI x.2.1, rTI x.2.2]) (fun _ => []) (fun x => NodesOk x.2.2 ∧ ∀ y ∈ x.2.2, y ∈ x.1.ns) (fun x => rBl (decide (atTs x.1 x.2.2 = x.2.1)))
noncomputable abbrev spIsMin (K : PySem.W.Frag) : Sp := Prm (fun x : ArgM => [rNet K x.1, rTI x.2.1, rTI x.2.2]) (fun _ => []) (fun x => PreS (x.1, x.2.1) ∧ NodesOk x.2.2 ∧ ∀ y ∈ x.2.2, y ∈ x.1.ns) (fun x => rBl (decide (atTs x.1 x.2.2 = x.2.1) && decide (cutp x.1.dir x.1.es (inB x.2.2) = vOf x.1 x.2.1)))
theorem lex_exists (n : List (List Int)) : ∃ m, Lex n m := by
  refine ⟨n.mergeSort fun a b => !HT.lexLt b a, List.mergeSort_perm n _, ?_⟩
  refine (List.pairwise_mergeSort (le := fun a b => !HT.lexLt b a) (fun a b c h1 h2 => ?_) (fun a b => ?_) n).imp fun h => by simpa using h
  · have h1 : HT.lexLt b a = false := by simpa using h1
    have h2 : HT.lexLt c b = false := by simpa using h2
    have := NtL.lex_tr a b c h1 h2
    simpa using this
  · cases h : HT.lexLt b a with
    | false => rfl
    | true =>
      have := NtL.lex_asym b a h
      simp [this]
theorem sets_perm (ts : List Int) : (setsOf ts).Perm (partsAll ts) := by
  obtain ⟨m, hm⟩ := lex_exists (partsAll ts)
  unfold setsOf
  rw [lexOf_eq hm]; exact hm.1
theorem sets_mem {ts s : List Int} : s ∈ setsOf ts ↔ s ∈ partsAll ts := (sets_perm ts).mem_iff
theorem sets_len {ts : List Int} (h : ts.length ≤ 9) : (setsOf ts).length ≤ 510 := by
  rw [(sets_perm ts).length_eq]
  unfold partsAll
  rw [List.length_map, List.length_range]
  have := two_pow h
  omega
noncomputable abbrev spVals (K : PySem.W.Frag) : Sp := PrmN (fun x : Nw => [rNet K x]) (fun _ => []) NwOk (fun x c => c = .lst ((setsOf x.ts).map fun s => rTup [rTI s, rInt (vOf x s)]))
end
end K96
set_option Elab.async false
set_option linter.all false
set_option maxRecDepth 100000
set_option maxHeartbeats 4000000
/-! what a network's making gives, its methods, == . Own work. -/
namespace K96
open PySem PySem.Spec L2 Rz Cut
section
variable {P : Program} {w : World} {K : PySem.W.Frag} {mg : Str → Option Value} {base : Heap}
/-! ### sorted -/
noncomputable def riseOf (l : List Int) : List Int := Classical.epsilon (Rise l)
theorem riseOf_eq {l m : List Int} (h : Rise l m) : riseOf l = m := rise_uniq (Classical.epsilon_spec (p := Rise l) ⟨m, h⟩) h
theorem riseOf_id {l : List Int} (h : l.Pairwise (· < ·)) : riseOf l = l := riseOf_eq ⟨List.Perm.refl _, h.imp Int.le_of_lt⟩
theorem rise_ex (l : List Int) : ∃ m, Rise l m := by
  refine ⟨l.mergeSort fun a b => decide (a ≤ b), List.mergeSort_perm l _, ?_⟩
  refine (List.pairwise_mergeSort (le := fun a b : Int => decide (a ≤ b)) (fun a b c h1 h2 => ?_) (fun a b => ?_) l).imp fun h => of_decide_eq_true h
  · have h1 := of_decide_eq_true h1
    have h2 := of_decide_eq_true h2
    exact decide_eq_true (by omega)
  · rcases Int.le_total a b with h | h
    · simp [h]
    · simp [h]
theorem riseOf_ok (l : List Int) : Rise l (riseOf l) := Classical.epsilon_spec (p := Rise l) (rise_ex l)
theorem tr3_inj : ∀ x y : Int × Int × Int, tr3 x = tr3 y → x = y := fun x y e => by
  obtain ⟨a, b, c⟩ := x
  obtain ⟨a', b', c'⟩ := y
  unfold tr3 at e
  injection e with e1 e
  injection e with e2 e
  injection e with e3 _
  have e1 : a = a' := e1
  have e2 : b = b' := e2
  have e3 : c = c' := e3
  rw [e1, e2, e3]
noncomputable def sortE (es : Edges) : Edges := Classical.epsilon fun l => l.Perm es ∧ Lex (es.map tr3) (l.map tr3)
theorem sortE_ok (es : Edges) : (sortE es).Perm es ∧ Lex (es.map tr3) ((sortE es).map tr3) := by
  refine Classical.epsilon_spec (p := fun l : Edges => l.Perm es ∧ Lex (es.map tr3) (l.map tr3)) ?_
  obtain ⟨m, hm⟩ := lex_exists (es.map tr3)
  obtain ⟨l, h1, rfl⟩ := perm_map_inv hm.1 es rfl
  exact ⟨l, h1, hm⟩
theorem sortE_perm (es : Edges) : (sortE es).Perm es := (sortE_ok es).1
theorem sortE_eq {es l : Edges} (h : Lex (es.map tr3) (l.map tr3)) : sortE es = l := List.map_inj_right (fun _ _ e => tr3_inj _ _ e) |>.mp (lex_uniq (sortE_ok es).2 h)
theorem sortE_congr {es es' : Edges} (h : es.Perm es') : sortE es = sortE es' := sortE_eq ⟨((sortE_ok es').2.1).trans ((h.map tr3).symm), (sortE_ok es').2.2⟩
theorem sortE_idem (es : Edges) : sortE (sortE es) = sortE es := sortE_congr (sortE_perm es)
/-- the network that is made of these -/
noncomputable def netOf (x : ArgN) : Nw := ⟨riseOf x.ns, sortE x.es, riseOf x.ts, x.dir⟩
theorem made_eq {x : ArgN} {y : Nw} (h : MadeN x y) : y = netOf x := by
  obtain ⟨ns, es, ts, dir⟩ := y
  obtain ⟨h1, _, h3, h4, rfl⟩ := h
  unfold netOf
  rw [riseOf_eq h1, sortE_eq h3, riseOf_eq h4]
theorem netOf_made (x : ArgN) : MadeN x (netOf x) := ⟨riseOf_ok _, sortE_perm _, (sortE_ok _).2, riseOf_ok _, rfl⟩
section
variable {t : Tys} {O : Os} {tr tk : TA} {te : TE}
theorem rEx_net {x : ArgN} {v : L2.V} {G : Hp} (h : (rEx (MadeN x) fun y => rIns (He.ga K "Network") (netF y)).p v G) : (rNet K (netOf x)).p v G := by
  obtain ⟨y, hy, hv⟩ := h
  rw [← made_eq hy]; exact hv
theorem ev_net4 {E : XK} (x : ArgN) (ha : EvA t O tr (rsN x)) (hp : PreN x) : EvT t O (tMake (He.ga K "Network") (spInit K) [] E tr) (rNet K (netOf x)) :=
  (ev_makeE x ha (fun vs G h => by rw [List.append_nil]; exact h) hp).sub fun v G h => rEx_net h
theorem ev_net3 {E : XK} (x : ArgN) (ha : EvA t O tr [rSI x.bn x.ns, rSq x.be (x.es.map rEd), rSI x.bt x.ts]) (hd : x.dir = false) (hp : PreN x) : EvT t O (tMake (He.ga K "Network") (spInit K) [.bl false] E tr) (rNet K (netOf x)) :=
  (ev_makeE x ha (fun vs G h => by
    have h2 := All2.snoc (v := .bl false) (R := rBl x.dir) h (by show L2.V.bl false = L2.V.bl x.dir; rw [hd])
    exact h2) hp).sub fun v G h => rEx_net h
end
/-! ### methods -/
def keyE (dir : Bool) (u v : Int) : Int × Int := if (dir || decide (u < v)) = true then (u, v) else (v, u)
theorem keyE_in {ns : List Int} {dir : Bool} {u v : Int} (hu : u ∈ ns) (hv : v ∈ ns) : (keyE dir u v).1 ∈ ns ∧ (keyE dir u v).2 ∈ ns := by
  unfold keyE
  split
  · exact ⟨hu, hv⟩
  · exact ⟨hv, hu⟩
theorem keyE_ne {dir : Bool} {u v : Int} (h : u ≠ v) : (keyE dir u v).1 ≠ (keyE dir u v).2 := by
  unfold keyE
  split
  · exact h
  · exact fun e => h e.symm
theorem keyE_up {dir : Bool} {u v : Int} (h : u ≠ v) (hd : dir = false) : (keyE dir u v).1 < (keyE dir u v).2 := by
  unfold keyE
  by_cases c : u < v
  · rw [if_pos (by rw [hd, decide_eq_true c]; rfl)]; exact c
  · rw [if_neg (by rw [hd, decide_eq_false c]; simp)]
    show v < u
    omega
def capE (es : Edges) (k : Int × Int) : Int := gt (es.map fun e => ((e.1, e.2.1), e.2.2)) k.1 k.2
theorem has_id {ns : List Int} (h : NodesOk ns) (v : Int) : ((decide (0 ≤ v) && decide (v ≤ 99)) && decide (v ∈ ns)) = decide (v ∈ ns) := by
  by_cases c : v ∈ ns
  · rw [decide_eq_true (h.1 v c).1, decide_eq_true (h.1 v c).2]; rfl
  · rw [decide_eq_false c, Bool.and_false]
abbrev spHas (K : PySem.W.Frag) : Sp := Prm (fun x : Nw × Int => [rNet K x.1, rInt x.2]) (fun _ => []) (fun x => NodesOk x.1.ns) (fun x => rBl (decide (x.2 ∈ x.1.ns)))
theorem ok_has_node (T : Tp K mg) {fd : FuncData} (F : FunD K "has_node" "Network.has_node" (defArgs (inClass (top 26) 2)) (defBody (inClass (top 26) 2)) (defScope (inClass (top 26) 2)) [] [] (He.ma K (He.ga K "Network") "has_node") fd) : FnOk P w K mg base CX0 4 (He.ma K (He.ga K "Network") "has_node") fd ["self", "value"] (spHas K) := by
  have sc : FnScope ["self", "value"] ["self", "value"] (defScope (inClass (top 26) 2)) := ⟨rfl, rfl, rfl, by decide +kernel, rfl, by decide +kernel, by decide +kernel⟩
  have c_is_node := c_is_node (P := P) (w := w) (base := base) T
  refine fn_prm F sc (fun _ => rfl) (fun _ => by first | exact List.nodup_nil | exact nd_fl | simp) fun cdv A outer s H E hr => ?_
  refine ⟨_, (pss_one (ps_ret (pe_and (pe_k c_is_node hr (by decide) (by rfl) (pa_cons (pv 1) pa_nil)) (pe_one (pe_cmpR op_in_seq (pv 1) (pe_fld (pv 0) rfl) rfl))))), fun x hp => ?_⟩
  obtain ⟨y, v⟩ := x
  have hp : NodesOk y.ns := hp
  refine ht_ret (ev_and (ev_call v (ea_cons (ev_var rfl) ea_nil) trivial) fun _ => ev_op (ev_var rfl) (f_nodes T (ev_var rfl)) vo_isT) ?_
  show rBl _ = rBl _
  rw [has_id hp]
theorem m_has_node (T : Tp K mg) : C8.Met P w K mg base 4 (He.ga K "Network") "has_node" (spHas K) [] := by
  obtain ⟨fd, F⟩ := T.d_Network_has_node
  exact ⟨_, fd, ["self", "value"], [], T.cls_Network, T.m_Network_has_node, ok_has_node T F, F.bindsN (fun _ _ _ _ _ _ us hl => match us, hl with | [_, _], _ => rfl), .nil⟩
abbrev spCheckN (K : PySem.W.Frag) : Sp := Prm (fun x : Nw × Int => [rNet K x.1, rInt x.2]) (fun _ => []) (fun x => NodesOk x.1.ns ∧ x.2 ∈ x.1.ns) (fun _ => rNon)
theorem ok_check_node (T : Tp K mg) {fd : FuncData} (F : FunD K "check_node" "Network.check_node" (defArgs (inClass (top 26) 3)) (defBody (inClass (top 26) 3)) (defScope (inClass (top 26) 3)) [] [] (He.ma K (He.ga K "Network") "check_node") fd) : FnOk P w K mg base CX0 5 (He.ma K (He.ga K "Network") "check_node") fd ["self", "value"] (spCheckN K) := by
  have sc : FnScope ["self", "value"] ["self", "value"] (defScope (inClass (top 26) 3)) := ⟨rfl, rfl, rfl, by decide +kernel, rfl, by decide +kernel, by decide +kernel⟩
  have m_has_node := m_has_node (P := P) (w := w) (base := base) T
  refine fn_prm F sc (fun _ => rfl) (fun _ => by first | exact List.nodup_nil | exact nd_fl | simp) fun cdv A outer s H E hr => ?_
  refine ⟨_, (pss_one (ps_if (pt_not (pt_val (C8.pe_mt m_has_node hr (by decide) (pv 0) (pa_cons (pv 1) pa_nil)))) (pss_one ps_never) pss_nil)), fun x hp => ?_⟩
  obtain ⟨y, v⟩ := x
  obtain ⟨h1, h2⟩ := hp
  have h2 : v ∈ y.ns := h2
  exact ht_ifNo (EvB.to (eb_not (eb_b (ev_meth (y, v) (ev_var rfl) (ea_cons (ev_var rfl) ea_nil) rfl rfl h1))) (by show (!decide (v ∈ y.ns)) = false; rw [decide_eq_true h2]; rfl)) rfl
theorem m_check_node (T : Tp K mg) : C8.Met P w K mg base 5 (He.ga K "Network") "check_node" (spCheckN K) [] := by
  obtain ⟨fd, F⟩ := T.d_Network_check_node
  exact ⟨_, fd, ["self", "value"], [], T.cls_Network, T.m_Network_check_node, ok_check_node T F, F.bindsN (fun _ _ _ _ _ _ us hl => match us, hl with | [_, _], _ => rfl), .nil⟩
abbrev spKey (K : PySem.W.Frag) : Sp := Prm (fun x : Nw × Int × Int => [rNet K x.1, rInt x.2.1, rInt x.2.2]) (fun _ => []) (fun _ => True) (fun x => rKT (kP (keyE x.1.dir x.2.1 x.2.2)))
theorem ok_key (T : Tp K mg) {fd : FuncData} (F : FunD K "key" "Network.key" (defArgs (inClass (top 26) 4)) (defBody (inClass (top 26) 4)) (defScope (inClass (top 26) 4)) [] [] (He.ma K (He.ga K "Network") "key") fd) : FnOk P w K mg base CX0 1 (He.ma K (He.ga K "Network") "key") fd ["self", "u", "v"] (spKey K) := by
  have sc : FnScope ["self", "u", "v"] ["self", "u", "v"] (defScope (inClass (top 26) 4)) := ⟨rfl, rfl, rfl, by decide +kernel, rfl, by decide +kernel, by decide +kernel⟩
  refine fn_prm F sc (fun _ => rfl) (fun _ => by first | exact List.nodup_nil | exact nd_fl | simp) fun cdv A outer s H E hr => ?_
  refine ⟨_, (pss_one (ps_ret (pe_ifExp (PW.pt (pw_or (pt_val (pe_fld (pv 0) rfl)) (pw_or1 (pt_cmpR op_lt (pv 1) (pv 2) (nomark _))))) (pe_tup (pa_cons (pv 1) (pa_cons (pv 2) pa_nil))) (pe_tup (pa_cons (pv 2) (pa_cons (pv 1) pa_nil)))))), fun x hp => ?_⟩
  obtain ⟨y, u, v⟩ := x
  refine ht_ret (ev_if (eb_or (eb_b (f_dir T (ev_var rfl))) fun _ => eb_test (ev_op (ev_var rfl) (ev_var rfl) vo_I0)) (fun h => EvT.to (ev_kP (ev_var rfl) (ev_var rfl)) ?_) (fun h => EvT.to (ev_kP (ev_var rfl) (ev_var rfl)) ?_)) rfl
  · show rKT (kP (u, v)) = rKT (kP (keyE y.dir u v))
    unfold keyE
    rw [if_pos h]
  · show rKT (kP (v, u)) = rKT (kP (keyE y.dir u v))
    unfold keyE
    rw [if_neg (by rw [h]; simp)]
theorem m_key (T : Tp K mg) : C8.Met P w K mg base 1 (He.ga K "Network") "key" (spKey K) [] := by
  obtain ⟨fd, F⟩ := T.d_Network_key
  exact ⟨_, fd, ["self", "u", "v"], [], T.cls_Network, T.m_Network_key, ok_key T F, F.bindsN (fun _ _ _ _ _ _ us hl => match us, hl with | [_, _, _], _ => rfl), .nil⟩
theorem caps_gt {es : Edges} {cs : PM} (nd : (es.map fun e => (e.1, e.2.1)).Nodup) (h : (cs.map ceE).Perm es) (k : Int × Int) : (lk (mP fI cs) (kP k)).getD (rInt 0) = rInt (capE es k) := by
  have h2 : cs.Perm (es.map fun e => ((e.1, e.2.1), e.2.2)) := by
    have := h.map fun e : Int × Int × Int => ((e.1, e.2.1), e.2.2)
    rw [List.map_map, show ((fun e : Int × Int × Int => ((e.1, e.2.1), e.2.2)) ∘ ceE) = id from rfl, List.map_id] at this
    exact this
  rw [lk_mP]
  unfold capE gt
  have nd1 : ((es.map fun e => ((e.1, e.2.1), e.2.2)).map (·.1)).Nodup := by rw [List.map_map]; exact nd
  have nd2 : (cs.map (·.1)).Nodup := (h2.map (·.1)).nodup_iff.mpr nd1
  cases hl : lk cs k with
  | none =>
    have : lk (es.map fun e => ((e.1, e.2.1), e.2.2)) k = none := by
      cases z : lk (es.map fun e => ((e.1, e.2.1), e.2.2)) k with
      | none => rfl
      | some a => rw [lk_of_mem nd2 (h2.mem_iff.mpr (lk_mem z))] at hl; cases hl
    rw [this]; rfl
  | some a =>
    have : lk (es.map fun e => ((e.1, e.2.1), e.2.2)) k = some a := lk_of_mem nd1 (h2.mem_iff.mp (lk_mem hl))
    rw [this]; rfl
abbrev spCapN (K : PySem.W.Frag) : Sp := Prm (fun x : Nw × Int × Int => [rNet K x.1, rInt x.2.1, rInt x.2.2]) (fun _ => []) (fun x => NwOk x.1 ∧ x.2.1 ∈ x.1.ns ∧ x.2.2 ∈ x.1.ns) (fun x => rInt (capE x.1.es (keyE x.1.dir x.2.1 x.2.2)))
theorem ok_capacity (T : Tp K mg) {fd : FuncData} (F : FunD K "capacity" "Network.capacity" (defArgs (inClass (top 26) 5)) (defBody (inClass (top 26) 5)) (defScope (inClass (top 26) 5)) [] [] (He.ma K (He.ga K "Network") "capacity") fd) : FnOk P w K mg base CX0 6 (He.ma K (He.ga K "Network") "capacity") fd ["self", "u", "v"] (spCapN K) := by
  have sc : FnScope ["self", "u", "v"] ["self", "u", "v"] (defScope (inClass (top 26) 5)) := ⟨rfl, rfl, rfl, by decide +kernel, rfl, by decide +kernel, by decide +kernel⟩
  have m_check_node := m_check_node (P := P) (w := w) (base := base) T
  have m_key := m_key (P := P) (w := w) (base := base) T
  refine fn_prm F sc (fun _ => rfl) (fun _ => by first | exact List.nodup_nil | exact nd_fl | simp) fun cdv A outer s H E hr => ?_
  have hu := hu_of hr
  refine ⟨_, (pss_cons (ps_expr (C8.pe_mt m_check_node hr (by decide) (pv 0) (pa_cons (pv 1) pa_nil)))
      (pss_cons (ps_expr (C8.pe_mt m_check_node hr (by decide) (pv 0) (pa_cons (pv 2) pa_nil)))
      (pss_one (ps_ret (pe_dget2 hu (pe_fld (pv 0) rfl) (C8.pe_mt m_key hr (by decide) (pv 0) (pa_cons (pv 1) (pa_cons (pv 2) pa_nil))) pe_int ⟨by rfl, by rfl, by rfl, by rfl⟩))))), fun x hp => ?_⟩
  obtain ⟨y, u, v⟩ := x
  obtain ⟨ok, hu, hv⟩ := hp
  have ok : NwOk y := ok
  refine hs_drop (ev_meth (y, u) (ev_var rfl) (ea_cons (ev_var rfl) ea_nil) rfl rfl ⟨ok.nodes, hu⟩) ?_
  refine hs_drop (ev_meth (y, v) (ev_var rfl) (ea_cons (ev_var rfl) ea_nil) rfl rfl ⟨ok.nodes, hv⟩) ?_
  exact ht_ret (ev_dget2TE (r := fun cs : PM => mP fI cs) (k := kP (keyE y.dir u v)) (f_caps T (ev_var rfl)) (ev_meth (y, u, v) (ev_var rfl) (ea_cons (ev_var rfl) (ea_cons (ev_var rfl) ea_nil)) rfl rfl trivial) ev_c fun cs h => caps_gt ok.edges.nd h _) rfl
theorem m_capacity (T : Tp K mg) : C8.Met P w K mg base 6 (He.ga K "Network") "capacity" (spCapN K) [] := by
  obtain ⟨fd, F⟩ := T.d_Network_capacity
  exact ⟨_, fd, ["self", "u", "v"], [], T.cls_Network, T.m_Network_capacity, ok_capacity T F, F.bindsN (fun _ _ _ _ _ _ us hl => match us, hl with | [_, _, _], _ => rfl), .nil⟩
/-! ### == -/
theorem eqv_LL : ∀ nss : List (List Int), PyData.eqvAll (Da.pys (daLL nss)) (Da.pys (daLL nss)) = true
  | [] => by simp [daLL, Da.pys, PyData.eqvAll]
  | ns :: nss => by
    have ih := eqv_LL nss
    have e := eqv_ints ns ns
    simp only [daLL, List.map_cons, Da.pys, Da.py, PyData.eqvAll, PyData.eqv] at ih ⊢
    rw [ih, e]; simp
theorem shaped_TL (nss : List (List Int)) : SeqAt.shaped (Da.py (.tup (daLL nss))) = true := by
  have c := canLay_LL nss
  have d := depth_LL nss
  simp only [Da.py, SeqAt.shaped, PyData.canLay0, PyData.depth, c]
  simp; omega
theorem vo_eqE {O : Os} {es : Edges} : VO O (rEqD K) (rTup (es.map rEd)) (rTup (es.map rEd)) (rBl true) := by
  have h := vo_eqD (K := K) (O := O) (shaped_TL (es.map tr3)) (shaped_TL (es.map tr3))
  have e : (Da.tup (daLL (es.map tr3))).rp = rTup (es.map rEd) := by
    simp only [Da.rp]
    rw [daLL_rps, List.map_map]; rfl
  rw [e] at h
  simp only [Da.py, PyData.eqv, eqv_LL] at h
  exact h
abbrev spEqN (K : PySem.W.Frag) : Sp := Prm (fun x : Nw => [rNet K x, rNet K x]) (fun _ => []) (fun _ => True) (fun _ => rBl true)
theorem ok_eq (T : Tp K mg) {fd : FuncData} (F : FunD K "__eq__" "Network.__eq__" (defArgs (inClass (top 26) 1)) (defBody (inClass (top 26) 1)) (defScope (inClass (top 26) 1)) [] [] (He.ma K (He.ga K "Network") "__eq__") fd) : FnOk P w K mg base CX0 1 (He.ma K (He.ga K "Network") "__eq__") fd ["self", "other"] (spEqN K) := by
  have sc : FnScope ["self", "other"] ["self", "other"] (defScope (inClass (top 26) 1)) := ⟨rfl, rfl, rfl, by decide +kernel, rfl, by decide +kernel, by decide +kernel⟩
  refine fn_prm F sc (fun _ => rfl) (fun _ => by first | exact List.nodup_nil | exact nd_fl | simp) fun cdv A outer s H E hr => ?_
  refine ⟨_, (pss_cons (ps_if (PW.pt (pw_or (pt_not (pt_val (pe_callB (C8.call_isC T.ins_Network) (by rfl) T.isinstance boot_isi (pa_cons (pv 1) (pa_cons (pe_cn (v := .ref (He.ga K "Network")) (by rfl) ⟨_, T.mg_Network, rfl⟩) pa_nil))))) (pw_or (pt_cmpR op_ne (pe_fld (pv 0) rfl) (pe_fld (pv 1) rfl) (nomark _)) (pw_or1 (pt_cmpR (op_neD hr.units) (pe_fld (pv 0) rfl) (pe_fld (pv 1) rfl) (nomark _)))))) (pss_one (ps_ret pe_bl)) pss_nil)
      (pss_one (ps_ret (pe_and (pe_cmpR (op_eqD hr.units) (pe_fld (pv 0) rfl) (pe_fld (pv 1) rfl) (nomark _)) (pe_one (pe_cmpR (op_eqD hr.units) (pe_fld (pv 0) rfl) (pe_fld (pv 1) rfl) (nomark _))))))), fun y hp => ?_⟩
  refine hs_ifNo (EvB.to (eb_or (eb_not (eb_b (ev_cb (ea_cons (ev_var rfl) (ea_cons ev_c ea_nil)) vc_isC))) fun _ => eb_or (eb_test (ev_op (f_dir T (ev_var rfl)) (f_dir T (ev_var rfl)) (vo_ne (by cases y.dir <;> rfl)))) fun _ => eb_test (ev_op (f_nodes T (ev_var rfl)) (f_nodes T (ev_var rfl)) vo_neT)) (by simp)) ?_
  refine ht_ret (ev_and (ev_op (f_edges T (ev_var rfl)) (f_edges T (ev_var rfl)) vo_eqE) fun _ => ev_op (f_terms T (ev_var rfl)) (f_terms T (ev_var rfl)) vo_eqT) ?_
  show rBl _ = rBl true
  rw [decide_eq_true rfl]; rfl
theorem op_eqNet {X : Cx} (T : Tp X.K X.mg) (hr : Room 1 X.A) : OpR X (compareOp .Eq) (rEqG (DIns (He.ga X.K "Network") (SameR (fun _ => True) (rNet X.K)))) := by
  obtain ⟨fd, F⟩ := T.d_Network_eq
  exact op_eqG (rcG_ins (fn_eq (ok_eq (P := X.prog) (w := X.w) (base := X.base) T F)) T.m_Network_eq.at_ T.m_Network_eq.fn (F.bindsN (fun _ _ _ _ _ _ us hl => match us, hl with | [_, _], _ => rfl)) pass0) hr
theorem vo_eqNet {O : Os} (x : Nw) : VO O (rEqG (DIns (He.ga K "Network") (SameR (fun _ => True) (rNet K)))) (rNet K x) (rNet K x) (rBl true) :=
  vo_eqG (R := rNet K) (C := He.ga K "Network") (fun x v G h => by
    obtain ⟨a, dx, l, e, h1, _⟩ := h
    exact ⟨a, dx, l, e, h1⟩) x trivial
end
end K96
set_option Elab.async false
set_option linter.all false
set_option maxRecDepth 100000
set_option maxHeartbeats 4000000
/-! amounts told, excesses, the greatest flow. Own work. -/
namespace K96
open PySem PySem.Spec L2 Rz Cut
section
variable {P : Program} {w : World} {K : PySem.W.Frag} {mg : Str → Option Value} {base : Heap}
theorem vc_anyF {α : Type} {O : Os} {xs : List α} {f : α → Bool} : VC O (rAny K) [rLst (xs.map fun x => rBl (f x))] (rBl (xs.any f)) := VC.val fun G H vs hx _ sb => by
  match vs, hx with
  | [v], hx =>
    obtain ⟨⟨a, ys, rfl, ha, h2⟩, _⟩ := hx
    have e : ys = (xs.map f).map L2.V.bl := by
      have h3 : All2 ys ((xs.map f).map fun b => rIs (.bl b)) G := by rw [List.map_map]; exact h2
      exact h3.eqs
    rw [e] at ha
    exact ⟨_, fun _ q => ⟨a, xs.map f, rfl, sb.lst ha, q⟩, by rw [List.any_map]; rfl⟩
theorem items_rp (f : PM) : (mP fI f).map (fun e => rTup [rKT e.1, e.2]) = f.map fun e => rTup [rKT (kP e.1), rInt e.2] := by
  unfold mP
  rw [List.map_map]
  rfl
theorem src_amts {t : Tys} {O : Os} {td : TE} {f : PM} {p : Addr} {od : Obj} {l : List (List Key × L2.V)} (h : EvT t O td (rRef p)) (hm : (p, OC.lkT od l (mP fI f)) ∈ O) : SrcW [(p, .lkT od l (mP fI f))] t O (iItemsT td) (f.map fun e => rTup [rKT (kP e.1), rInt e.2]) := items_rp f ▸ src_itemsT h hm
noncomputable abbrev spAmts : Sp := Prm (fun x : PM × Addr => [rRef x.2]) (fun x => [(x.2, .dT (mP fI x.1))]) (fun x => x.1.length ≤ 10000) (fun x => rLst ((sortE (posE x.1)).map rEd))
theorem ok_told_amounts (T : Tp K mg) {fd : FuncData} (F : FunD K "told_amounts" "told_amounts" (defArgs (top 39)) (defBody (top 39)) (defScope (top 39)) [] [] (He.ga K "told_amounts") fd) : FnOk P w K mg base CX0 1 (He.ga K "told_amounts") fd ["flow"] spAmts := by
  have sc : FnScope ["flow", "amount", "pair"] ["flow"] (defScope (top 39)) := ⟨rfl, rfl, rfl, by decide +kernel, rfl, by decide +kernel, by decide +kernel⟩
  refine fn_prm F sc (fun _ => rfl) (fun _ => by first | exact List.nodup_nil | exact nd_fl | simp) fun cdv A outer s H E hr => ?_
  refine ⟨_, (pss_one (ps_ret (pe_callB (cr_sortedLx K) (by rfl) T.sorted boot_sorted (pa_cons (pe_lock (pe_lc (own := [("pair", 2), ("amount", 1)]) (by rfl) sc.nd (pi_itemsT (pv 0)) (blkOk_by (by kernel_rfl)) (fun _ _ _ _ _ => (pg_tupK K (n := 2) (by rfl) (pgs_cons (pg_name (i := 2) sc.nd rfl (Or.inl rfl)) (pgs_cons (pg_name (i := 1) sc.nd rfl (Or.inl rfl)) pgs_nil)))) (fun _ _ _ _ _ => (pts_one (pt_cmpR op_gt (pv 1) pe_int (nomark _)))) (fun _ _ _ _ _ => (pe_tup (pa_cons (pe_ix (ix_tupK K) (pv 2) pe_int (fun _ _ => rfl)) (pa_cons (pe_ix (ix_tupK K) (pv 2) pe_int (fun _ _ => rfl)) (pa_cons (pv 1) pa_nil))))))) pa_nil)))), fun x hp => ?_⟩
  obtain ⟨f, p⟩ := x
  have hp : f.length ≤ 10000 := hp
  refine ht_ret (EvT.sub (R := rEx (Lex ((posE f).map tr3)) fun mss => rLst (mss.map rTI)) (ev_cb (ea_cons (EvT.to (ev_lockT (k := 0) (p := p) (r := mP fI f) (by simp) rfl fun od l => ev_new (en_lcL (xs := f) (L := [(p, .lkT od l (mP fI f))]) (f := fun e => rTup [rKT (kP e.1), rInt e.2]) (c := fun e => decide (0 < e.2)) (r := fun e => rTI [e.1.1, e.1.2, e.2]) (src_amts (ev_var rfl) List.mem_cons_self) (fun e he => he) (lineBig' (by omega)) fun e _ => ⟨_, _, tg_two (Ra := rKT (kP e.1)) (Rb := rInt e.2), by simp, eb_test (ev_op (ev_var rfl) ev_c vo_I0), fun _ => ev_tup (Rs := [rInt e.1.1, rInt e.1.2, rInt e.2]) (ea_cons (ev_op (ev_var rfl) ev_c (vo_ixT (j := 0) rfl rfl)) (ea_cons (ev_op (ev_var rfl) ev_c (vo_ixT (j := 1) rfl rfl)) (ea_cons (ev_var rfl) ea_nil)))⟩) oc_lst) (R' := rLst (((posE f).map tr3).map rTI)) ?_) ea_nil) (vc_sortedLx fun ns hns => ?_)) fun v G ⟨m, hm, hv⟩ => ?_) rfl
  · unfold posE posM
    rw [List.map_map, List.map_map]; rfl
  · obtain ⟨e, _, rfl⟩ := List.mem_map.mp hns
    simp [tr3]
  · show (rLst ((sortE (posE f)).map rEd)).p v G
    have e : m = (sortE (posE f)).map tr3 := lex_uniq hm (sortE_ok _).2
    have hv : (rLst (m.map rTI)).p v G := hv
    rw [e, List.map_map] at hv
    exact hv
theorem c_told_amounts (T : Tp K mg) : Kal P w K mg base 1 "told_amounts" ["flow"] spAmts := by
  obtain ⟨⟨fd, F⟩, hm⟩ := T.at_ 21 "told_amounts" 39
  exact kal_of F hm (ok_told_amounts T F) (fun _ _ _ _ _ _ us hl => match us, hl with | [_], _ => rfl)
theorem pk_fun {ns : List Int} {g : Int → Int} {u a : Int} (hu : u ∈ ns) : pk (ns.map fun k => (k, g k)) u a = ns.map fun k => (k, if k = u then a else g k) := by
  rw [pk_in (by rw [List.map_map]; exact List.mem_map.mpr ⟨u, hu, rfl⟩), List.map_map]
  refine List.map_congr_left fun k _ => ?_
  show (if k = u then (k, a) else (k, g k)) = _
  split <;> rfl
theorem lk_fun {ns : List Int} {g : Int → Int} {u : Int} (hu : u ∈ ns) (nd : ns.Nodup) : lk (ns.map fun k => (k, g k)) u = some (g u) :=
  lk_of_mem (by rw [List.map_map]; exact nd_map (fun _ _ e => e) nd) (List.mem_map.mpr ⟨u, hu, rfl⟩)
theorem exTo_snoc {l : Edges} {e : Int × Int × Int} {x : Int} : exTo (l ++ [e]) x = exTo l x + ((if e.1 = x then e.2.2 else 0) - (if e.2.1 = x then e.2.2 else 0)) := by
  unfold exTo
  rw [List.map_append, List.sum_append]
  simp
abbrev spEx (K : PySem.W.Frag) : Sp := Prm (fun x : Nw × Edges => [rNet K x.1, rLst (x.2.map rEd)]) (fun _ => []) (fun x => NwOk x.1 ∧ ∀ e ∈ x.2, e.1 ∈ x.1.ns ∧ e.2.1 ∈ x.1.ns) (fun x => rDK (mI fI (x.1.ns.map fun k => (k, exTo x.2 k))))
theorem ok_excess_by_node (T : Tp K mg) {fd : FuncData} (F : FunD K "excess_by_node" "excess_by_node" (defArgs (top 41)) (defBody (top 41)) (defScope (top 41)) [] [] (He.ga K "excess_by_node") fd) : FnOk P w K mg base CX0 1 (He.ga K "excess_by_node") fd ["network", "flow"] (spEx K) := by
  have sc : FnScope ["network", "flow", "found", "u", "v", "amount", "node"] ["network", "flow"] (defScope (top 41)) := ⟨rfl, rfl, rfl, by decide +kernel, rfl, by decide +kernel, by decide +kernel⟩
  refine fn_prm F sc (fun _ => rfl) (fun _ => by first | exact List.nodup_nil | exact nd_fl | simp) fun cdv A outer s H E hr => ?_
  have hu := hu_of hr
  refine ⟨_, (pss_cons (ps_setDc (i := 2) (own := [("node", 6)]) (by rfl) sc.nd rfl rfl (sw_trueD rfl rfl rfl (by decide +kernel)) (pi_tup (pe_fld (pv 0) rfl)) (blkOk_by (by kernel_rfl)) (fun _ _ _ _ _ => (pg_name (i := 6) sc.nd rfl (Or.inl rfl))) (fun _ _ _ _ _ => pts_nil) (fun _ _ _ _ _ => (pv 6)) (fun _ _ _ _ _ => pe_int))
      (pss_cons (ps_for PassesOwn.never rfl (pi_list (pv 1)) (pg_tup (n := 3) (by rfl) (pgs_cons (pg_name (i := 3) sc.nd rfl (Or.inl rfl)) (pgs_cons (pg_name (i := 4) sc.nd rfl (Or.inl rfl)) (pgs_cons (pg_name (i := 5) sc.nd rfl (Or.inl rfl)) pgs_nil)))) (pss_cons (ps_dput hu (pv 2) (pv 3) (pe_op op_add (pe_dget hu (pv 2) (pv 3) (fun _ _ => rfl)) (pv 5)) rfl)
      (pss_one (ps_dput hu (pv 2) (pv 4) (pe_op op_sub (pe_dget hu (pv 2) (pv 4) (fun _ _ => rfl)) (pv 5)) rfl))))
      (pss_one (ps_ret (pv 2))))), fun x hp => ?_⟩
  obtain ⟨y, l⟩ := x
  obtain ⟨ok, hl⟩ := hp
  have ok : NwOk y := ok
  have hl : ∀ e ∈ l, e.1 ∈ y.ns ∧ e.2.1 ∈ y.ns := hl
  have nd := rising_nd ok.nodes.2.1
  have len := ok.len
  have e0 : OC.dK (pkAll [] (y.ns.map fun n => (kI n, rInt 0))) = OC.dK (mI fI (y.ns.map fun k => (k, exTo [] k))) := by
    rw [pkAll_nd (by rw [List.nil_append, List.map_map]; exact nd_map kI_inj nd), List.nil_append]
    unfold mI
    rw [List.map_map]; rfl
  refine hs_setN (c := .dK (mI fI (y.ns.map fun k => (k, exTo [] k)))) (e0 ▸ en_dcK (k := fun n => kI n) (r := fun _ => rInt 0) (xs := y.ns) (f := fun n => rInt n) (L := []) (src_tup (f_nodes T (ev_var rfl))).w (by simp) (small (by omega)) fun n _ => ⟨_, _, tg_name, by simp, ev_var rfl, ev_c⟩) (k := fun p => ?_)
  let I : Nat → Nxt := fun i t1 O1 W1 => ∃ (o1 o2 o3 : Option Rp), t1 = [some (rNet K y), some (rLst (l.map rEd)), some (rRef p), o1, o2, o3, none] ∧ O1 = [(p, .dK (mI fI (y.ns.map fun k => (k, exTo (l.take i) k))))] ∧ W1 = [p]
  refine hs_for (src_lst (ev_var rfl)) I ⟨_, _, _, rfl, rfl, rfl⟩ ?_ ?_
  · rintro i R t1 O1 W1 hR ⟨o1, o2, o3, rfl, rfl, rfl⟩
    rw [List.getElem?_map] at hR
    cases he : l[i]? with
    | none => rw [he] at hR; cases hR
    | some e =>
      rw [he] at hR
      cases hR
      obtain ⟨hu, hv⟩ := hl e (List.mem_of_getElem? he)
      obtain ⟨u, v, a⟩ := e
      have hu : u ∈ y.ns := hu
      have hv : v ∈ y.ns := hv
      have get : ∀ {t : Tys} {j : Nat} {g : Int → Int} {z : Int}, t[2]? = some (some (rRef p)) → t[j]? = some (some (rInt z)) → z ∈ y.ns → EvT t [(p, OC.dK (mI fI (y.ns.map fun k => (k, g k))))] (tDGet (tVar 2) (tVar j)) (rInt (g z)) := fun {t j g z} h1 h2 hz => ev_dgetK (k := kI z) (R := rInt (g z)) (ev_var h1) (.inr ⟨p, rfl, .inl List.mem_cons_self⟩) (ev_var h2) (by rw [lk_mI, lk_fun hz nd]; rfl)
      have big : ∀ {g : Int → Int}, (mI fI (y.ns.map fun k => (k, g k))).length < sizeLine := lineBig (by unfold mI; rw [List.length_map, List.length_map]; omega)
      refine ⟨_, _, tg_three (Ra := rInt u) (Rb := rInt v) (Rc := rInt a), ?_⟩
      refine ht_seq (Nx := fun t1 O1 W1 => t1 = [some (rNet K y), some (rLst (l.map rEd)), some (rRef p), some (rInt u), some (rInt v), some (rInt a), none] ∧ O1 = [(p, .dK (mI fI (y.ns.map fun k => (k, if k = u then exTo (l.take i) u + a else exTo (l.take i) k))))] ∧ W1 = [p]) (ht_dputK (k := 0) (j := kI u) (R := rInt (exTo (l.take i) u + a)) (ev_op (get (g := fun k => exTo (l.take i) k) rfl rfl hu) (ev_var rfl) vo_I0) (ev_var rfl) (ev_var rfl) rfl (.inl (by simp)) big ⟨rfl, ?_, rfl⟩) ?_
      · show [(p, OC.dK (pk (mI fI (y.ns.map fun k => (k, exTo (l.take i) k))) (kI u) (rInt (exTo (l.take i) u + a))))] = _
        rw [pk_mI, pk_fun hu]
      · rintro t1 O1 W1 ⟨rfl, rfl, rfl⟩
        refine ht_dputK (k := 0) (j := kI v) (R := rInt ((if v = u then exTo (l.take i) u + a else exTo (l.take i) v) - a)) (ev_op (get (g := fun k => if k = u then exTo (l.take i) u + a else exTo (l.take i) k) rfl rfl hv) (ev_var rfl) vo_I0) (ev_var rfl) (ev_var rfl) rfl (.inl (by simp)) big ⟨_, _, _, rfl, ?_, rfl⟩
        show [(p, OC.dK (pk (mI fI (y.ns.map fun k => (k, if k = u then exTo (l.take i) u + a else exTo (l.take i) k))) (kI v) (rInt ((if v = u then exTo (l.take i) u + a else exTo (l.take i) v) - a))))] = _
        rw [pk_mI, pk_fun hv, snoc_take he]
        congr 5
        funext k
        rw [exTo_snoc]
        show (k, if k = v then (if v = u then exTo (l.take i) u + a else exTo (l.take i) v) - a else if k = u then exTo (l.take i) u + a else exTo (l.take i) k) = (k, exTo (l.take i) k + ((if u = k then a else 0) - (if v = k then a else 0)))
        congr 1
        by_cases c1 : k = v
        · subst c1
          by_cases c2 : k = u
          · subst c2; simp
          · have c3 : ¬ u = k := fun e => c2 e.symm
            simp [c2, c3]; omega
        · have c1' : ¬ v = k := fun e => c1 e.symm
          by_cases c2 : k = u
          · subst c2; simp [c1, c1']
          · have c3 : ¬ u = k := fun e => c2 e.symm
            simp [c1, c1', c2, c3]
  · rintro t1 O1 W1 ⟨o1, o2, o3, rfl, rfl, rfl⟩
    rw [List.length_map, List.take_length]
    refine HT.freeze (p := p) (i := 2) (k := 0) (c := .dK _) (rDK _) rfl rfl (by simp) (fun o F' hF hok => oc_dK p o F' hF hok) ?_
    exact ht_ret (ev_var rfl) rfl
theorem c_excess_by_node (T : Tp K mg) : Kal P w K mg base 1 "excess_by_node" ["network", "flow"] (spEx K) := by
  obtain ⟨⟨fd, F⟩, hm⟩ := T.at_ 22 "excess_by_node" 41
  exact kal_of F hm (ok_excess_by_node T F) (fun _ _ _ _ _ _ us hl => match us, hl with | [_, _], _ => rfl)
/-- two lists of nodes that can be parted -/
structure PreE (x : ArgL) : Prop where
  ok : NwOk x.1
  src : NodesOk x.2.1
  snk : NodesOk x.2.2
  sV : ∀ y ∈ x.2.1, y ∈ x.1.ns
  tV : ∀ y ∈ x.2.2, y ∈ x.1.ns
  s1 : 1 ≤ x.2.1.length
  t1 : 1 ≤ x.2.2.length
  dj : ∀ y ∈ x.2.1, y ∉ x.2.2
theorem PreE.ends {x : ArgL} (h : PreE x) : Ends x.1 x.2.1 x.2.2 := ⟨rising_nd h.src.2.1, rising_nd h.snk.2.1, h.sV, h.tV, h.dj⟩
abbrev spBothC (K : PySem.W.Frag) : Sp := Prm (fun x : ArgL => [rNet K x.1, rTI x.2.1, rTI x.2.2]) (fun _ => []) PreE (fun _ => rNon)
theorem ok_check_both (T : Tp K mg) {fd : FuncData} (F : FunD K "check_both" "check_both" (defArgs (top 45)) (defBody (top 45)) (defScope (top 45)) [] [] (He.ga K "check_both") fd) : FnOk P w K mg base CX0 6 (He.ga K "check_both") fd ["network", "sources", "sinks"] (spBothC K) := by
  have sc : FnScope ["network", "sources", "sinks", "some", "node"] ["network", "sources", "sinks"] (defScope (top 45)) := ⟨rfl, rfl, rfl, by decide +kernel, rfl, by decide +kernel, by decide +kernel⟩
  have c_are_nodes_of := c_are_nodes_of (P := P) (w := w) (base := base) T
  refine fn_prm F sc (fun _ => rfl) (fun _ => by first | exact List.nodup_nil | exact nd_fl | simp) fun cdv A outer s H E hr => ?_
  refine ⟨_, (pss_cons (ps_for PassesOwn.never rfl (pi_tup (pe_tup (pa_cons (pv 1) (pa_cons (pv 2) pa_nil)))) (pg_name (i := 3) sc.nd rfl (Or.inl rfl)) (pss_one (ps_if (PW.pt (pw_or (pt_not (pt_val (pe_k c_are_nodes_of hr (by decide) (by rfl) (pa_cons (pv 0) (pa_cons (pv 3) pa_nil))))) (pw_or1 (pt_cmpR op_eq (pe_callB call_len_seq (by rfl) T.len PySem.boot_len (pa_cons (pv 3) pa_nil)) pe_int (nomark _))))) (pss_one ps_never) pss_nil)))
      (pss_one (ps_if (pt_val (pe_callB (cr_any rfl) (by rfl) T.any boot_any (pa_cons (pe_lc (own := [("node", 4)]) (by rfl) sc.nd (pi_tup (pv 2)) (blkOk_by (by kernel_rfl)) (fun _ _ _ _ _ => (pg_name (i := 4) sc.nd rfl (Or.inl rfl))) (fun _ _ _ _ _ => pts_nil) (fun _ _ _ _ _ => (pe_cmpR (op_inK K) (pv 4) (pv 1) rfl))) pa_nil))) (pss_one ps_never) pss_nil))), fun x hp => ?_⟩
  obtain ⟨y, src, snk⟩ := x
  obtain ⟨ok, h1, h2, h3, h4, h5, h6, h7⟩ := hp
  let I : Nat → Nxt := fun i t1 O1 W1 => ∃ (o1 : Option Rp), t1 = [some (rNet K y), some (rTI src), some (rTI snk), o1, none] ∧ O1 = [] ∧ W1 = []
  refine hs_for (src_tup (Rs := [rTI src, rTI snk]) (ev_tup (ea_cons (ev_var rfl) (ea_cons (ev_var rfl) ea_nil)))) I ⟨_, rfl, rfl, rfl⟩ ?_ ?_
  · rintro i R t1 O1 W1 hR ⟨o1, rfl, rfl, rfl⟩
    have hs : ∃ s, R = rTI s ∧ NodesOk s ∧ (∀ k ∈ s, k ∈ y.ns) ∧ 1 ≤ s.length := by
      match i, hR with
      | 0, hR => cases hR; exact ⟨src, rfl, h1, h3, h5⟩
      | 1, hR => cases hR; exact ⟨snk, rfl, h2, h4, h6⟩
      | i + 2, hR => simp at hR
    obtain ⟨s, rfl, g1, g2, g3⟩ := hs
    refine ⟨_, _, tg_name, ?_⟩
    exact ht_ifNo (EvB.to (eb_or (eb_not (eb_b (ev_call (y, s) (ea_cons (ev_var rfl) (ea_cons (ev_var rfl) ea_nil)) ⟨g1, g2⟩))) fun _ => eb_test (ev_op (ev_cb (ea_cons (ev_var rfl) ea_nil) vc_lenT) ev_c vo_eqI)) (by rw [List.length_map, decide_eq_false (by omega)]; rfl)) ⟨_, rfl, rfl, rfl⟩
  · rintro t1 O1 W1 ⟨o1, rfl, rfl, rfl⟩
    refine ht_ifNo (EvB.to (eb_b (ev_cb (ea_cons (ev_lc0 (xs := snk) (f := fun n => rInt n) (r := fun n => rBl (decide (n ∈ src))) (src_tup (ev_var rfl)) (small h2.2.2) fun n _ => ⟨_, _, tg_name, by simp, ev_op (ev_var rfl) (ev_var rfl) vo_isT⟩) ea_nil) vc_anyF)) ?_) rfl
    rw [List.any_eq_false]
    intro k hk hd
    exact h7 k (of_decide_eq_true hd) hk
theorem c_check_both (T : Tp K mg) : Kal P w K mg base 6 "check_both" ["network", "sources", "sinks"] (spBothC K) := by
  obtain ⟨⟨fd, F⟩, hm⟩ := T.at_ 26 "check_both" 45
  exact kal_of F hm (ok_check_both T F) (fun _ _ _ _ _ _ us hl => match us, hl with | [_, _, _], _ => rfl)
/-- what is told of a greatest flow -/
structure FlowOf (x : ArgL) (z : Int × Edges) : Prop where
  min : IsMin x.1.ns x.2.1 x.2.2 (cutp x.1.dir x.1.es) z.1
  told : ∃ f, Done (capsOf x.1.dir x.1.es, x.2.1, x.2.2, x.1.ns) f ∧ z.2 = sortE (posE f)
theorem done_min {x : ArgL} (h : PreE x) {f : PM} (d : Done (capsOf x.1.dir x.1.es, x.2.1, x.2.2, x.1.ns) f) : IsMin x.1.ns x.2.1 x.2.2 (cutp x.1.dir x.1.es) (val x.1.ns x.2.1 f) := by
  obtain ⟨y, src, snk⟩ := x
  obtain ⟨F, hK, n, b, hn, R, full⟩ := d
  have F : Flow y.ns src snk (capsOf y.dir y.es) f := F
  have R : Reach y.ns src n (capsOf y.dir y.es) f b := R
  have ok : NwOk y := h.ok
  have hmem := caps_mem ok.edges
  have hcut : ∀ p, cutp y.dir y.es p = cutV y.ns (capsOf y.dir y.es) p := fun p => by
    rw [← caps_cut ok.edges p, ← cut_edges (rising_nd ok.nodes.2.1) (caps_nd ok.edges) (fun e he => ⟨(hmem e he).1, (hmem e he).2.1⟩)]
  have dj : ∀ k ∈ src, k ∉ snk := h.dj
  have pr : Parts y.ns src snk fun k => decide (k ∈ ks b) := ⟨fun k _ hs => decide_eq_true (List.mem_map.mpr ⟨_, R.roots k hs, rfl⟩), fun k _ hs => decide_eq_false (full k hs)⟩
  refine ⟨⟨_, pr, ?_⟩, fun p hp => ?_⟩
  · show cutp y.dir y.es _ = val y.ns src f
    rw [hcut, ← (val_eq F dj pr).mpr (R.cl hn F.ok)]
  · show val y.ns src f ≤ cutp y.dir y.es p
    rw [hcut]
    exact val_le F dj hp
noncomputable abbrev spFlow (K : PySem.W.Frag) : Sp := Prm (fun x : ArgL => [rNet K x.1, rTI x.2.1, rTI x.2.2]) (fun _ => []) PreE (fun x => rEx (FlowOf x) fun z => rTup [rInt z.1, rLst (z.2.map rEd)])
theorem ok_maximum_flow (T : Tp K mg) {fd : FuncData} (F : FunD K "maximum_flow" "maximum_flow" (defArgs (top 47)) (defBody (top 47)) (defScope (top 47)) [] [] (He.ga K "maximum_flow") fd) : FnOk P w K mg base CX0 7 (He.ga K "maximum_flow") fd ["network", "sources", "sinks"] (spFlow K) := by
  have sc : FnScope ["network", "sources", "sinks", "flow", "found", "node"] ["network", "sources", "sinks"] (defScope (top 47)) := ⟨rfl, rfl, rfl, by decide +kernel, rfl, by decide +kernel, by decide +kernel⟩
  have c_check_both := c_check_both (P := P) (w := w) (base := base) T
  have c_told_amounts := c_told_amounts (P := P) (w := w) (base := base) T
  have c_grown_flow := c_grown_flow (P := P) (w := w) (base := base) T
  have c_capacities_of := c_capacities_of (P := P) (w := w) (base := base) T
  have c_excess_by_node := c_excess_by_node (P := P) (w := w) (base := base) T
  refine fn_prm F sc (fun _ => rfl) (fun _ => by first | exact List.nodup_nil | exact nd_fl | simp) fun cdv A outer s H E hr => ?_
  have hu := hu_of hr
  refine ⟨_, (pss_cons (ps_expr (pe_k c_check_both hr (by decide) (by rfl) (pa_cons (pv 0) (pa_cons (pv 1) (pa_cons (pv 2) pa_nil)))))
      (pss_cons (ps_set (i := 3) sc.nd rfl (Or.inl rfl) (pe_k c_told_amounts hr (by decide) (by rfl) (pa_cons (pe_k c_grown_flow hr (by decide) (by rfl) (pa_cons (pe_k c_capacities_of hr (by decide) (by rfl) (pa_cons (pv 0) pa_nil)) (pa_cons (pv 1) (pa_cons (pv 2) pa_nil)))) pa_nil)))
      (pss_cons (ps_set (i := 4) sc.nd rfl (Or.inr rfl) (pe_k c_excess_by_node hr (by decide) (by rfl) (pa_cons (pv 0) (pa_cons (pv 3) pa_nil))))
      (pss_one (ps_ret (pe_tup (pa_cons (pe_callB (cr_sum rfl) (by rfl) T.sum boot_sum (pa_cons (pe_lc (own := [("node", 5)]) (by rfl) sc.nd (pi_tup (pv 1)) (blkOk_by (by kernel_rfl)) (fun _ _ _ _ _ => (pg_name (i := 5) sc.nd rfl (Or.inl rfl))) (fun _ _ _ _ _ => pts_nil) (fun _ _ _ _ _ => (pe_dget hu (pv 4) (pv 5) (fun _ _ => rfl)))) pa_nil)) (pa_cons (pv 3) pa_nil)))))))), fun x hp => ?_⟩
  obtain ⟨y, src, snk⟩ := x
  have ok : NwOk y := hp.ok
  have en : Ends y src snk := hp.ends
  have ndV := rising_nd ok.nodes.2.1
  have lenV := ok.len
  have hmem := caps_mem ok.edges
  have clen : (capsOf y.dir y.es).length ≤ 1000 := by
    have h1 := caps_len ok.edges
    have h2 := ok.elen
    omega
  have lsrc : src.length ≤ 1000 := hp.src.2.2
  refine hs_drop (ev_call (y, src, snk) (ea_cons (ev_var rfl) (ea_cons (ev_var rfl) (ea_cons (ev_var rfl) ea_nil))) hp) ?_
  refine hs_setE (P := Done (capsOf y.dir y.es, src, snk, y.ns)) (Rb := fun f => rLst ((sortE (posE f)).map rEd)) (ev_callTN (capsOf y.dir y.es, src, snk, y.ns) (ea_cons (ev_call y (ea_cons (ev_var rfl) ea_nil) ok) (ea_cons (ev_var rfl) (ea_cons (ev_var rfl) ea_nil))) ⟨ndV, lenV, en.nds, en.ndt, en.sV, en.tV, en.dj, fun e he => ⟨(hmem e he).1, (hmem e he).2.1⟩, fun e he => (hmem e he).2.2.2, clen⟩ fun c ⟨f, hf, e⟩ => ⟨f, hf, fun p => ⟨(f, p), ?_, rfl, by rw [e], rfl⟩⟩) fun f hf => ?_
  · show f.length ≤ 10000
    have h1 := keys_len hf.keys
    have h2 : y.ns.length * y.ns.length ≤ 60 * 60 := Nat.mul_le_mul lenV lenV
    exact Nat.le_trans h1 (Nat.le_trans h2 (by decide))
  · have hK : Keys y.ns f := hf.keys
    have an : Anti f := hf.flow.ok.anti
    have hin : ∀ e ∈ sortE (posE f), e.1 ∈ y.ns ∧ e.2.1 ∈ y.ns := fun e he => by
      have he := (sortE_perm (posE f)).mem_iff.mp he
      obtain ⟨e0, h0, rfl⟩ := List.mem_map.mp he
      exact hK.2 e0.1 (List.mem_map.mpr ⟨e0, (List.mem_filter.mp h0).1, rfl⟩)
    refine hs_set (ev_call (y, sortE (posE f)) (ea_cons (ev_var rfl) (ea_cons (ev_var rfl) ea_nil)) ⟨ok, hin⟩) ?_
    refine ht_ret (EvT.intro (val y.ns src f, sortE (posE f)) ⟨done_min hp hf, f, hf, rfl⟩ (ev_tup (ea_cons (EvT.to (ev_cb (ea_cons (EvT.to (ev_lc0 (xs := src) (f := fun n => rInt n) (r := fun n => rInt (exTo (sortE (posE f)) n)) (src_tup (ev_var rfl)) (small lsrc) fun n hn => ⟨_, _, tg_name, by simp, ev_dgetK (k := kI n) (R := rInt (exTo (sortE (posE f)) n)) (ev_var rfl) (.inl rfl) (ev_var rfl) (by rw [lk_mI, lk_fun (en.sV n hn) ndV]; rfl)⟩) (R' := rLI (src.map (exTo (sortE (posE f))))) (by show rLst _ = rLst _; rw [List.map_map]; rfl)) ea_nil) vc_sum) ?_) (ea_cons (ev_var rfl) ea_nil)))) rfl
    have e1 : src.map (exTo (sortE (posE f))) = src.map (ex y.ns f) := List.map_congr_left fun k _ => by rw [exTo_perm (sortE_perm _), ex_pos ndV hK an]
    rw [e1, sum_src ndV en.nds en.sV]
    rfl
theorem c_maximum_flow (T : Tp K mg) : Kal P w K mg base 7 "maximum_flow" ["network", "sources", "sinks"] (spFlow K) := by
  obtain ⟨⟨fd, F⟩, hm⟩ := T.at_ 28 "maximum_flow" 47
  exact kal_of F hm (ok_maximum_flow T F) (fun _ _ _ _ _ _ us hl => match us, hl with | [_, _, _], _ => rfl)
end
end K96
set_option Elab.async false
set_option linter.all false
set_option maxRecDepth 100000
set_option maxHeartbeats 4000000
/-! changed networks; rises and losses. Own work. -/
namespace K96
open PySem PySem.Spec L2 Rz Cut
section
variable {P : Program} {w : World} {K : PySem.W.Frag} {mg : Str → Option Value} {base : Heap}
/-! ### changes -/
/-- what the network with other edges is asked to be made of -/
def argE (y : Nw) (es : Edges) : ArgN := ⟨y.ns, true, es, false, y.ts, true, y.dir⟩
theorem netOf_E {y : Nw} (ok : NwOk y) (es : Edges) : netOf (argE y es) = ⟨y.ns, sortE es, y.ts, y.dir⟩ := by
  unfold netOf argE
  rw [riseOf_id ok.nodes.2.1, riseOf_id ok.terms.2.1]
structure EdgesIn (y : Nw) (es : Edges) : Prop where
  e : EdgesOk y.ns y.dir es
  len : es.length ≤ 400
theorem EdgesIn.pre {y : Nw} (ok : NwOk y) {es : Edges} (h : EdgesIn y es) : PreN (argE y es) := by
  refine ⟨⟨ok.nodes.1, rising_nd ok.nodes.2.1, ok.nodes.2.2⟩, ⟨⟨ok.terms.1, rising_nd ok.terms.2.1, ok.terms.2.2⟩, ok.many.1, ok.sub⟩, fun e he => ?_, h.e.nd, Nat.le_trans h.len (by decide)⟩
  have h1 := h.e.inV e he
  exact ⟨ok.nodes.1 _ h1.1, ok.nodes.1 _ h1.2, h1.1, h1.2, h.e.ne e he, fun d => h.e.up d e he, h.e.pos e he⟩
theorem edges_perm {V : List Int} {dir : Bool} {es es' : Edges} (h : EdgesOk V dir es) (p : es'.Perm es) : EdgesOk V dir es' :=
  ⟨(p.map _).nodup_iff.mpr h.nd, fun e he => h.inV e (p.mem_iff.mp he), fun e he => h.ne e (p.mem_iff.mp he), fun d e he => h.up d e (p.mem_iff.mp he), fun e he => h.pos e (p.mem_iff.mp he)⟩
theorem NwOk.with {y : Nw} (ok : NwOk y) {es : Edges} (h : EdgesIn y es) : NwOk ⟨y.ns, sortE es, y.ts, y.dir⟩ :=
  ⟨ok.nodes, ok.len, edges_perm h.e (sortE_perm es), by show (sortE es).length ≤ 400; rw [(sortE_perm es).length_eq]; exact h.len, ok.terms, ok.sub, ok.many⟩
noncomputable abbrev spWithE (K : PySem.W.Frag) : Sp := Prm (fun x : Nw × Edges => [rNet K x.1, rLst (x.2.map rEd)]) (fun _ => []) (fun x => NwOk x.1 ∧ EdgesIn x.1 x.2) (fun x => rNet K ⟨x.1.ns, sortE x.2, x.1.ts, x.1.dir⟩)
theorem ok_with_edges (T : Tp K mg) {fd : FuncData} (F : FunD K "with_edges" "with_edges" (defArgs (top 29)) (defBody (top 29)) (defScope (top 29)) [] [] (He.ga K "with_edges") fd) : FnOk P w K mg base CX0 8 (He.ga K "with_edges") fd ["network", "edges"] (spWithE K) := by
  have sc : FnScope ["network", "edges"] ["network", "edges"] (defScope (top 29)) := ⟨rfl, rfl, rfl, by decide +kernel, rfl, by decide +kernel, by decide +kernel⟩
  have c_Network4 := c_Network4 (P := P) (w := w) (base := base) T
  refine fn_prm F sc (fun _ => rfl) (fun _ => by first | exact List.nodup_nil | exact nd_fl | simp) fun cdv A outer s H E hr => ?_
  refine ⟨_, (pss_one (ps_ret (C8.pe_mk c_Network4 hr (by decide) (by rfl) (pa_cons (pe_fld (pv 0) rfl) (pa_cons (pv 1) (pa_cons (pe_fld (pv 0) rfl) (pa_cons (pe_fld (pv 0) rfl) pa_nil))))))), fun x hp => ?_⟩
  obtain ⟨y, es⟩ := x
  obtain ⟨ok, h⟩ := hp
  have ok : NwOk y := ok
  refine ht_ret (EvT.to (ev_net4 (argE y es) (ea_cons (f_nodes T (ev_var rfl)) (ea_cons (ev_var rfl) (ea_cons (f_terms T (ev_var rfl)) (ea_cons (f_dir T (ev_var rfl)) ea_nil)))) (h.pre ok)) ?_) rfl
  rw [netOf_E ok]
theorem c_with_edges (T : Tp K mg) : Kal P w K mg base 8 "with_edges" ["network", "edges"] (spWithE K) := by
  obtain ⟨⟨fd, F⟩, hm⟩ := T.at_ 12 "with_edges" 29
  exact kal_of F hm (ok_with_edges T F) (fun _ _ _ _ _ _ us hl => match us, hl with | [_, _], _ => rfl)
/-- the edges with another capacity of one -/
def putE (dir : Bool) (es : Edges) (u v c : Int) : Edges := (es.filter fun e => !decide ([e.1, e.2.1] = [(keyE dir u v).1, (keyE dir u v).2])) ++ if 0 < c then [((keyE dir u v).1, (keyE dir u v).2, c)] else []
theorem putE_ok {y : Nw} (ok : NwOk y) {u v c : Int} (hu : u ∈ y.ns) (hv : v ∈ y.ns) (ne : u ≠ v) (hl : y.es.length ≤ 399) : EdgesIn y (putE y.dir y.es u v c) := by
  have hs : (y.es.filter fun e => !decide ([e.1, e.2.1] = [(keyE y.dir u v).1, (keyE y.dir u v).2])).Sublist y.es := List.filter_sublist
  have h := ok.edges
  have kin := keyE_in (dir := y.dir) hu hv
  have e0 : EdgesOk y.ns y.dir (y.es.filter fun e => !decide ([e.1, e.2.1] = [(keyE y.dir u v).1, (keyE y.dir u v).2])) := ⟨h.nd.sublist (hs.map _), fun e he => h.inV e (hs.subset he), fun e he => h.ne e (hs.subset he), fun d e he => h.up d e (hs.subset he), fun e he => h.pos e (hs.subset he)⟩
  have l0 := hs.length_le
  unfold putE
  by_cases hc : 0 < c
  · rw [if_pos hc]
    refine ⟨⟨?_, fun e he => ?_, fun e he => ?_, fun d e he => ?_, fun e he => ?_⟩, by rw [List.length_append]; simp only [List.length_cons, List.length_nil]; omega⟩
    · rw [List.map_append]
      refine List.nodup_append.mpr ⟨e0.nd, by simp, fun a ha b hb e => ?_⟩
      obtain ⟨z, hz, rfl⟩ := List.mem_map.mp ha
      have hb : b = ((keyE y.dir u v).1, (keyE y.dir u v).2) := List.mem_singleton.mp hb
      have h2 := (List.mem_filter.mp hz).2
      rw [hb] at e
      have h3 : [z.1, z.2.1] = [(keyE y.dir u v).1, (keyE y.dir u v).2] := by
        have e1 := congrArg Prod.fst e
        have e2 := congrArg Prod.snd e
        simp only at e1 e2
        rw [e1, e2]
      rw [decide_eq_true h3] at h2
      cases h2
    all_goals
      rcases List.mem_append.mp he with he | he
      · first | exact e0.inV e he | exact e0.ne e he | exact e0.up d e he | exact e0.pos e he
      · rw [List.mem_singleton.mp he]
        first | exact kin | exact keyE_ne ne | exact keyE_up ne d | exact hc
  · rw [if_neg hc, List.append_nil]
    exact ⟨e0, by omega⟩
noncomputable def withCap (y : Nw) (u v c : Int) : Nw := ⟨y.ns, sortE (putE y.dir y.es u v c), y.ts, y.dir⟩
structure PreWC (x : Nw × Int × Int × Int) : Prop where
  ok : NwOk x.1
  u : x.2.1 ∈ x.1.ns
  v : x.2.2.1 ∈ x.1.ns
  ne : x.2.1 ≠ x.2.2.1
  c : 0 ≤ x.2.2.2 ∧ x.2.2.2 ≤ 1000000
  len : x.1.es.length ≤ 399
noncomputable abbrev spWithC (K : PySem.W.Frag) : Sp := Prm (fun x : Nw × Int × Int × Int => [rNet K x.1, rInt x.2.1, rInt x.2.2.1, rInt x.2.2.2]) (fun _ => []) PreWC (fun x => rNet K (withCap x.1 x.2.1 x.2.2.1 x.2.2.2))
theorem ok_with_capacity (T : Tp K mg) {fd : FuncData} (F : FunD K "with_capacity" "with_capacity" (defArgs (top 30)) (defBody (top 30)) (defScope (top 30)) [] [] (He.ga K "with_capacity") fd) : FnOk P w K mg base CX0 9 (He.ga K "with_capacity") fd ["network", "u", "v", "capacity"] (spWithC K) := by
  have sc : FnScope ["network", "u", "v", "capacity", "pair", "edges", "edge"] ["network", "u", "v", "capacity"] (defScope (top 30)) := ⟨rfl, rfl, rfl, by decide +kernel, rfl, by decide +kernel, by decide +kernel⟩
  have m_check_node := m_check_node (P := P) (w := w) (base := base) T
  have m_has_node := m_has_node (P := P) (w := w) (base := base) T
  have c_is_between := c_is_between (P := P) (w := w) (base := base) T
  have m_key := m_key (P := P) (w := w) (base := base) T
  have c_with_edges := c_with_edges (P := P) (w := w) (base := base) T
  refine fn_prm F sc (fun _ => rfl) (fun _ => by first | exact List.nodup_nil | exact nd_fl | simp) fun cdv A outer s H E hr => ?_
  refine ⟨_, (pss_cons (ps_expr (C8.pe_mt m_check_node hr (by decide) (pv 0) (pa_cons (pv 1) pa_nil)))
      (pss_cons (ps_if (PW.pt (pw_or (pt_not (pt_val (C8.pe_mt m_has_node hr (by decide) (pv 0) (pa_cons (pv 2) pa_nil)))) (pw_or1 (pt_cmpR op_eq (pv 1) (pv 2) (nomark _))))) (pss_one ps_never) pss_nil)
      (pss_cons (ps_if (pt_not (pt_val (pe_k c_is_between hr (by decide) (by rfl) (pa_cons (pv 3) (pa_cons pe_int (pa_cons (pe_cn (by rfl) T.MOST_CAPACITY) pa_nil)))))) (pss_one ps_never) pss_nil)
      (pss_cons (ps_set (i := 4) sc.nd rfl (Or.inr rfl) (C8.pe_mt m_key hr (by decide) (pv 0) (pa_cons (pv 1) (pa_cons (pv 2) pa_nil))))
      (pss_cons (ps_setLc (i := 5) (own := [("edge", 6)]) (by rfl) sc.nd rfl rfl (sw_true rfl rfl rfl (by decide +kernel)) (pi_tup (pe_fld (pv 0) rfl)) (blkOk_by (by kernel_rfl)) (fun _ _ _ _ _ => (pg_name (i := 6) sc.nd rfl (Or.inl rfl))) (fun _ _ _ _ _ => (pts_one (pt_cmpR (op_neDK K hr.units) (pe_slice (sl_tupAK K) (pv 6) po_none (po_some pe_int)) (pv 4) (nomark _)))) (fun _ _ _ _ _ => (pv 6)))
      (pss_cons (ps_if (pt_cmpR op_gt (pv 3) pe_int (nomark _)) (pss_one (ps_expr (pe_bm PySem.F.plainAttrs_list PySem.F.slot_list_append PySem.F.type_list_append mt_append (pv 5) (pa_cons (pe_op op_catA (pv 4) (pe_tup (pa_cons (pv 3) pa_nil))) pa_nil)))) pss_nil)
      (pss_one (ps_ret (pe_k c_with_edges hr (by decide) (by rfl) (pa_cons (pv 0) (pa_cons (pv 5) pa_nil))))))))))), fun x hp => ?_⟩
  obtain ⟨y, u, v, c⟩ := x
  obtain ⟨ok, hu, hv, ne, hc, hl⟩ := hp
  have ok : NwOk y := ok
  have hu : u ∈ y.ns := hu
  have hv : v ∈ y.ns := hv
  have ne : u ≠ v := ne
  have hc : 0 ≤ c ∧ c ≤ 1000000 := hc
  have hl : y.es.length ≤ 399 := hl
  refine hs_drop (ev_meth (y, u) (ev_var rfl) (ea_cons (ev_var rfl) ea_nil) rfl rfl ⟨ok.nodes, hu⟩) ?_
  refine hs_ifNo (EvB.to (eb_or (eb_not (eb_b (ev_meth (y, v) (ev_var rfl) (ea_cons (ev_var rfl) ea_nil) rfl rfl ok.nodes))) fun _ => eb_test (ev_op (ev_var rfl) (ev_var rfl) vo_eqI)) (by show (!decide (v ∈ y.ns) || decide (u = v)) = false; rw [decide_eq_true hv, decide_eq_false ne]; rfl)) ?_
  refine hs_ifNo (EvB.to (eb_not (eb_b (ev_call (c, 0, 1000000) (ea_cons (ev_var rfl) (ea_cons ev_c (ea_cons ev_c ea_nil))) trivial))) (by show (!(decide (0 ≤ c) && decide (c ≤ 1000000))) = false; rw [decide_eq_true hc.1, decide_eq_true hc.2]; rfl)) ?_
  refine hs_set (R := rKT (kP (keyE y.dir u v))) (ev_meth (y, u, v) (ev_var rfl) (ea_cons (ev_var rfl) (ea_cons (ev_var rfl) ea_nil)) rfl rfl trivial) ?_
  generalize hk : keyE y.dir u v = k
  have two : ∀ {t : Tys} {O : Os} {i : Nat} {e : Int × Int × Int}, t[i]? = some (some (rEd e)) → EvT t O (tSl (rSlA K) (tVar i) tNoPart (tPart (tC (.int 2)))) (rTI [e.1, e.2.1]) := fun h => ev_toT (j := 2) (ev_var h) ev_c rfl
  refine hs_setN (c := .lst ((y.es.filter fun e => !decide ([e.1, e.2.1] = [k.1, k.2])).map rEd)) (en_lc (xs := y.es) (f := rEd) (r := rEd) (src_tup (f_edges T (ev_var rfl))) (small (by omega)) fun e _ => ⟨_, _, tg_name, by simp, eb_test (ev_op (two rfl) (ev_var rfl) (vo_neT (ns := [e.1, e.2.1]) (ms := [k.1, k.2]))), fun _ => ev_var rfl⟩) (k := fun p => ?_)
  refine ht_seq (Nx := fun t1 O1 W1 => t1 = [some (rNet K y), some (rInt u), some (rInt v), some (rInt c), some (rKT (kP k)), some (rRef p), none] ∧ O1 = [(p, .lst ((putE y.dir y.es u v c).map rEd))] ∧ W1 = [p]) (ht_if (c := decide (0 < c)) (eb_test (ev_op (ev_var rfl) ev_c vo_I0)) (fun ht => ?_) fun hf => ht_next ⟨rfl, ?_, rfl⟩) ?_
  · refine ht_append (k := 0) (R := rEd (k.1, k.2, c)) (ev_var rfl) (ev_op (ev_var rfl) (ev_tup (ea_cons (ev_var rfl) ea_nil)) (vo_catT (Rs := [rInt k.1, rInt k.2]) (Ss := [rInt c]) (small (by simp)))) rfl (.inl (by simp)) (lineBig (by rw [List.length_map]; exact Nat.le_trans (List.length_filter_le _ _) (by omega))) ⟨rfl, ?_, rfl⟩
    unfold putE
    rw [if_pos (of_decide_eq_true ht), hk, List.map_append]; rfl
  · unfold putE
    rw [if_neg (of_decide_eq_false hf), hk, List.append_nil]
  · rintro t1 O1 W1 ⟨rfl, rfl, rfl⟩
    refine HT.freeze (p := p) (i := 5) (k := 0) (c := .lst _) (rLst _) rfl rfl (by simp) (fun o F' hF hok => oc_lst p o F' hF hok) ?_
    exact ht_ret (ev_call (y, putE y.dir y.es u v c) (ea_cons (ev_var rfl) (ea_cons (ev_var rfl) ea_nil)) ⟨ok, putE_ok ok hu hv ne hl⟩) rfl
theorem c_with_capacity (T : Tp K mg) : Kal P w K mg base 9 "with_capacity" ["network", "u", "v", "capacity"] (spWithC K) := by
  obtain ⟨⟨fd, F⟩, hm⟩ := T.at_ 13 "with_capacity" 30
  exact kal_of F hm (ok_with_capacity T F) (fun _ _ _ _ _ _ us hl => match us, hl with | [_, _, _, _], _ => rfl)
theorem kw_with_capacity_1_v_u_capacity (T : Tp K mg) : KalK P w K mg base 9 "with_capacity" 1 ["v", "u", "capacity"] (fun us ws => us ++ pick [1, 0, 2] ws) (spWithC K) := by
  obtain ⟨⟨fd, F⟩, hm⟩ := T.at_ 13 "with_capacity" 30
  exact kalk_of (n := 1) (ks := ["v", "u", "capacity"]) (fun us ws => us ++ pick [1, 0, 2] ws) F hm (ok_with_capacity T F) (fun r1 r2 => r1.append (vals_pick r2 _)) (fun _ _ _ _ _ _ us ws h1 h2 => match us, h1, ws, h2 with | [_], _, [_, _, _], _ => rfl)
/-! ### rises and losses -/
/-- p takes the terminals of s alone -/
def Agree (ts s : List Int) (p : Int → Bool) : Prop := ∀ t ∈ ts, p t = decide (t ∈ s)
def SideS (ts s ins outs : List Int) (p : Int → Bool) : Prop := Agree ts s p ∧ (∀ k ∈ ins, p k = true) ∧ ∀ k ∈ outs, p k = false
abbrev cOf (y : Nw) : (Int → Bool) → Int := cutp y.dir y.es
theorem cOf_nn {y : Nw} (ok : NwOk y) (p : Int → Bool) : 0 ≤ cOf y p := cutp_nn fun e he => by have := ok.edges.pos e he; omega
noncomputable def lsO (y : Nw) (s ins outs : List Int) : Option Int := oMin (SideS y.ts s ins outs) (cOf y)
theorem parts_side {y : Nw} {s ins outs src snk : List Int} (ok : NwOk y) (hs : ∀ k ∈ s, k ∈ y.ts) (iV : ∀ k ∈ ins, k ∈ y.ns) (oV : ∀ k ∈ outs, k ∈ y.ns) (h1 : ∀ k, k ∈ src ↔ k ∈ s ∨ k ∈ ins) (h2 : ∀ k, k ∈ snk ↔ k ∈ less y.ts s ∨ k ∈ outs) {p : Int → Bool} : Parts y.ns src snk p ↔ SideS y.ts s ins outs p := by
  constructor
  · rintro ⟨a, b⟩
    refine ⟨fun t ht => ?_, fun k hk => a k (iV k hk) ((h1 k).mpr (.inr hk)), fun k hk => b k (oV k hk) ((h2 k).mpr (.inr hk))⟩
    by_cases c : t ∈ s
    · rw [decide_eq_true c]; exact a t (ok.sub t ht) ((h1 t).mpr (.inl c))
    · rw [decide_eq_false c]; exact b t (ok.sub t ht) ((h2 t).mpr (.inl (less_mem.mpr ⟨ht, c⟩)))
  · rintro ⟨a, b, c⟩
    refine ⟨fun k _ hk => ?_, fun k _ hk => ?_⟩
    · rcases (h1 k).mp hk with h | h
      · rw [a k (hs k h)]; exact decide_eq_true h
      · exact b k h
    · rcases (h2 k).mp hk with h | h
      · have := less_mem.mp h
        rw [a k this.1]; exact decide_eq_false this.2
      · exact c k h
structure PreLS (x : (Nw × List Int) × List Int × List Int) : Prop where
  s : PreS x.1
  iV : ∀ k ∈ x.2.1, k ∈ x.1.1.ns
  oV : ∀ k ∈ x.2.2, k ∈ x.1.1.ns
  ind : x.2.1.Nodup
  ond : x.2.2.Nodup
theorem rise_lt {l m : List Int} (r : Rise l m) (nd : l.Nodup) : m.Pairwise (· < ·) := List.Pairwise.imp₂ (fun a b h1 h2 => by
  have h1 : a ≤ b := h1
  have h2 : a ≠ b := h2
  show a < b
  omega) r.2 (r.1.nodup_iff.mpr nd)
/-- some, and those of others that it has not -/
def plus (s l : List Int) : List Int := s ++ l.filter fun n => !decide (n ∈ s)
theorem plus_mem {s l : List Int} {k : Int} : k ∈ plus s l ↔ k ∈ s ∨ k ∈ l := by
  unfold plus
  rw [List.mem_append, List.mem_filter]
  constructor
  · rintro (h | h)
    · exact .inl h
    · exact .inr h.1
  · rintro (h | h)
    · exact .inl h
    · by_cases c : k ∈ s
      · exact .inl c
      · exact .inr ⟨h, by simp [c]⟩
theorem plus_nd {s l : List Int} (hs : s.Nodup) (hl : l.Nodup) : (plus s l).Nodup := by
  refine List.nodup_append.mpr ⟨hs, hl.filter _, fun a ha b hb e => ?_⟩
  have := (List.mem_filter.mp hb).2
  rw [← e] at this
  simp [ha] at this
theorem plus_nodes {ns s l m : List Int} (hn : NodesOk ns) (hs : s.Nodup) (hl : l.Nodup) (sV : ∀ k ∈ s, k ∈ ns) (lV : ∀ k ∈ l, k ∈ ns) (h : Rise (plus s l) m) : NodesOk m ∧ ∀ k ∈ m, k ∈ ns := by
  have sub : ∀ k ∈ m, k ∈ ns := fun k hk => (plus_mem.mp (h.1.mem_iff.mp hk)).elim (sV k) (lV k)
  have lt := rise_lt h (plus_nd hs hl)
  exact ⟨⟨fun k hk => hn.1 k (sub k hk), lt, Nat.le_trans (nodup_len (rising_nd lt) sub) hn.2.2⟩, sub⟩
theorem less_some {y : Nw} {s : List Int} (h : PartOk y.ts s) (ht : NodesOk y.ts) : 1 ≤ (less y.ts s).length := by
  cases e : less y.ts s with
  | cons a l => rw [List.length_cons]; omega
  | nil =>
    have h1 : ∀ t ∈ y.ts, t ∈ s := fun t hm => Classical.byContradiction fun c => by
      have := less_mem.mpr ⟨hm, c⟩
      rw [e] at this; cases this
    have := nodup_len (rising_nd ht.2.1) h1
    have := h.high
    omega
noncomputable abbrev spLS (K : PySem.W.Frag) : Sp := Prm (fun x : (Nw × List Int) × List Int × List Int => [rNet K x.1.1, rTI x.1.2, rLI x.2.1, rLI x.2.2]) (fun _ => []) PreLS (fun x => rOp (lsO x.1.1 x.1.2 x.2.1 x.2.2))
theorem ok_least_side (T : Tp K mg) {fd : FuncData} (F : FunD K "least_side" "least_side" (defArgs (top 62)) (defBody (top 62)) (defScope (top 62)) [] [] (He.ga K "least_side") fd) : FnOk P w K mg base CX0 8 (He.ga K "least_side") fd ["network", "some", "inside", "outside"] (spLS K) := by
  have sc : FnScope ["network", "some", "inside", "outside", "sources", "rest", "sinks", "node"] ["network", "some", "inside", "outside"] (defScope (top 62)) := ⟨rfl, rfl, rfl, by decide +kernel, rfl, by decide +kernel, by decide +kernel⟩
  have c_others := c_others (P := P) (w := w) (base := base) T
  have c_maximum_flow := c_maximum_flow (P := P) (w := w) (base := base) T
  refine fn_prm F sc (fun _ => rfl) (fun _ => by first | exact List.nodup_nil | exact nd_fl | simp) fun cdv A outer s H E hr => ?_
  refine ⟨_, (pss_cons (ps_set (i := 4) sc.nd rfl (Or.inl rfl) (pe_callB cr_sortedI (by rfl) T.sorted boot_sorted (pa_cons (pe_op op_cat (pe_callTy call_list_of (by rfl) T.list boot_lst (pa_cons (pv 1) pa_nil)) (pe_lc (own := [("node", 7)]) (by rfl) sc.nd (pi_list (pv 2)) (blkOk_by (by kernel_rfl)) (fun _ _ _ _ _ => (pg_name (i := 7) sc.nd rfl (Or.inl rfl))) (fun _ _ _ _ _ => (pts_one (pt_cmpR (op_ninK K) (pv 7) (pv 1) rfl))) (fun _ _ _ _ _ => (pv 7)))) pa_nil)))
      (pss_cons (ps_set (i := 5) sc.nd rfl (Or.inr rfl) (pe_k c_others hr (by decide) (by rfl) (pa_cons (pe_fld (pv 0) rfl) (pa_cons (pv 1) pa_nil))))
      (pss_cons (ps_set (i := 6) sc.nd rfl (Or.inr rfl) (pe_callB cr_sortedI (by rfl) T.sorted boot_sorted (pa_cons (pe_op op_cat (pe_callTy call_list_of (by rfl) T.list boot_lst (pa_cons (pv 5) pa_nil)) (pe_lc (own := [("node", 7)]) (by rfl) sc.nd (pi_list (pv 3)) (blkOk_by (by kernel_rfl)) (fun _ _ _ _ _ => (pg_name (i := 7) sc.nd rfl (Or.inl rfl))) (fun _ _ _ _ _ => (pts_one (pt_cmpR (op_ninK K) (pv 7) (pv 5) rfl))) (fun _ _ _ _ _ => (pv 7)))) pa_nil)))
      (pss_cons (ps_if (pt_val (pe_callB (cr_any rfl) (by rfl) T.any boot_any (pa_cons (pe_lc (own := [("node", 7)]) (by rfl) sc.nd (pi_list (pv 4)) (blkOk_by (by kernel_rfl)) (fun _ _ _ _ _ => (pg_name (i := 7) sc.nd rfl (Or.inl rfl))) (fun _ _ _ _ _ => pts_nil) (fun _ _ _ _ _ => (pe_cmpR (op_inK K) (pv 7) (pv 6) rfl))) pa_nil))) (pss_one (ps_ret pe_non)) pss_nil)
      (pss_one (ps_ret (pe_ix ix_tup (pe_k c_maximum_flow hr (by decide) (by rfl) (pa_cons (pv 0) (pa_cons (pe_callTy call_tuple_of (by rfl) T.tuple boot_tup (pa_cons (pv 4) pa_nil)) (pa_cons (pe_callTy call_tuple_of (by rfl) T.tuple boot_tup (pa_cons (pv 6) pa_nil)) pa_nil)))) pe_int (fun _ _ => rfl)))))))), fun x hp => ?_⟩
  obtain ⟨⟨y, s⟩, ins, outs⟩ := x
  obtain ⟨⟨ok, hs⟩, iV, oV, ind, ond⟩ := hp
  have ok : NwOk y := ok
  have hs : PartOk y.ts s := hs
  have iV : ∀ k ∈ ins, k ∈ y.ns := iV
  have oV : ∀ k ∈ outs, k ∈ y.ns := oV
  have ind : ins.Nodup := ind
  have ond : outs.Nodup := ond
  have li : ins.length ≤ 60 := Nat.le_trans (nodup_len ind iV) ok.len
  have lo : outs.length ≤ 60 := Nat.le_trans (nodup_len ond oV) ok.len
  have ls : s.length ≤ 9 := by have := hs.high; have := ok.many.2; omega
  have lt : (less y.ts s).length ≤ 9 := Nat.le_trans (List.length_filter_le _ _) ok.many.2
  have snd := rising_nd hs.nodes.2.1
  have tnd : (less y.ts s).Nodup := (rising_nd ok.terms.2.1).filter _
  have cat : ∀ {t : Tys} {i j : Nat} {a b : List Int}, t[i]? = some (some (rTI a)) → t[j]? = some (some (rLI b)) → a.length ≤ 60 → b.length ≤ 60 → (wt t [7])[7]? = some none → t.length = 8 → i < 7 → (wt t [7])[i]? = some (some (rTI a)) → EvT t [] (tOp rCat (tCB (fun xs H Q => ∃ p ys, xs = [.ref p] ∧ (SqL K H p ys ∨ SqT K H p ys) ∧ ∀ l, H l = none → Q (.ref l) (upd H l (.lst ys))) (tCons (tVar i) tNil)) (tLc (iList K (tVar j)) (gName 7) (tTest (tOp (rIn K true) (tVar 7) (tVar i))) (tVar 7) [7])) (rLI (plus a b)) := fun {t i j a b} h1 h2 la lb h7 hlen hi hw => EvT.to (ev_op (ev_cb (ea_cons (ev_var h1) ea_nil) vc_listT) (ev_lc (xs := b) (f := fun n => rInt n) (r := fun n => rInt n) (c := fun n => !decide (n ∈ a)) (src_lst (ev_var h2)) (small (by omega)) fun n _ => ⟨_, _, tg_name, by simp, eb_test (ev_op (ev_var (by simp [wt, hlen])) (ev_var (by rw [List.getElem?_set_ne (by omega)]; exact hw)) vo_niT), fun _ => ev_var (by simp [wt, hlen])⟩) (vo_catL (by rw [List.length_map, List.length_map]; have := List.length_filter_le (fun n => !decide (n ∈ a)) b; exact lineBig' (by omega)))) (by show rLst _ = rLst _; unfold plus; rw [List.map_append])
  refine hs_setE (P := Rise (plus s ins)) (Rb := fun m => rLI m) (ev_cb (ea_cons (cat (a := s) (b := ins) rfl rfl (by omega) li rfl rfl (by decide) rfl) ea_nil) vc_sortedI) fun src hsrc => ?_
  refine hs_set (R := rTI (less y.ts s)) (ev_call (y.ts, s) (ea_cons (f_terms T (ev_var rfl)) (ea_cons (ev_var rfl) ea_nil)) ok.terms.2.2) ?_
  refine hs_setE (P := Rise (plus (less y.ts s) outs)) (Rb := fun m => rLI m) (ev_cb (ea_cons (cat (a := less y.ts s) (b := outs) rfl rfl (by omega) lo rfl rfl (by decide) rfl) ea_nil) vc_sortedI) fun snk hsnk => ?_
  obtain ⟨n1, v1⟩ := plus_nodes ok.nodes snd ind (fun k hk => ok.sub k (hs.sub k hk)) iV hsrc
  obtain ⟨n2, v2⟩ := plus_nodes ok.nodes tnd ond (fun k hk => ok.sub k (less_mem.mp hk).1) oV hsnk
  have m1 : ∀ k, k ∈ src ↔ k ∈ s ∨ k ∈ ins := fun k => hsrc.1.mem_iff.trans plus_mem
  have m2 : ∀ k, k ∈ snk ↔ k ∈ less y.ts s ∨ k ∈ outs := fun k => hsnk.1.mem_iff.trans plus_mem
  have ps : ∀ p, Parts y.ns src snk p ↔ SideS y.ts s ins outs p := fun p => parts_side ok hs.sub iV oV m1 m2
  refine hs_ifRet (c := src.any fun n => decide (n ∈ snk)) (eb_b (ev_cb (ea_cons (ev_lc0 (xs := src) (f := fun n => rInt n) (r := fun n => rBl (decide (n ∈ snk))) (src_lst (ev_var rfl)) (small n1.2.2) fun n _ => ⟨_, _, tg_name, by simp, ev_op (ev_var rfl) (ev_var rfl) vo_isL⟩) ea_nil) vc_anyF)) (fun hc => ?_) fun hc => ?_
  · refine ht_ret ev_c ?_
    obtain ⟨k, hk, hd⟩ := List.any_eq_true.mp hc
    have hd := of_decide_eq_true hd
    have e : lsO y s ins outs = none := oMin_eq (a := none) fun p hp => by
      have hp := (ps p).mpr hp
      have h1 := hp.1 k (v1 k hk) hk
      have h2 := hp.2 k (v2 k hd) hd
      rw [h1] at h2; cases h2
    show rNon = rOp (lsO y s ins outs)
    rw [e]; rfl
  · have dj : ∀ k ∈ src, k ∉ snk := fun k hk hd => by
      rw [List.any_eq_false] at hc
      exact hc k hk (decide_eq_true hd)
    have s1 : 1 ≤ src.length := by
      rw [hsrc.1.length_eq]
      unfold plus
      rw [List.length_append]
      have := hs.low
      omega
    have t1 : 1 ≤ snk.length := by
      rw [hsnk.1.length_eq]
      unfold plus
      rw [List.length_append]
      have := less_some hs ok.terms
      omega
    refine ht_ret (R := rOp (lsO y s ins outs)) (EvT.sub (ev_op (ev_call (y, src, snk) (ea_cons (ev_var rfl) (ea_cons (ev_cb (ea_cons (ev_var rfl) ea_nil) vc_tupleL) (ea_cons (ev_cb (ea_cons (ev_var rfl) ea_nil) vc_tupleL) ea_nil))) ⟨ok, n1, n2, v1, v2, s1, t1, dj⟩) ev_c (VO.exL fun z hz => VO.intro (P := fun m => IsMin y.ns src snk (cOf y) m) (Rx := fun m => rInt m) z.1 hz.min (vo_ixT (j := 0) rfl rfl))) fun v G ⟨m, hm, hv⟩ => ?_) rfl
    have e : lsO y s ins outs = some m := oMin_eq ((IsO.of_min hm).congr (fun p => (ps p).symm) fun _ _ => rfl)
    show v = opV (lsO y s ins outs)
    rw [e]; exact hv
theorem c_least_side (T : Tp K mg) : Kal P w K mg base 8 "least_side" ["network", "some", "inside", "outside"] (spLS K) := by
  obtain ⟨⟨fd, F⟩, hm⟩ := T.at_ 39 "least_side" 62
  exact kal_of F hm (ok_least_side T F) (fun _ _ _ _ _ _ us hl => match us, hl with | [_, _, _, _], _ => rfl)
theorem opt_filter : ∀ l : List (Option Int), (l.filter fun o => !decide (opV o = .non)).map rOp = (l.filterMap id).map fun i => rInt i
  | [] => rfl
  | none :: l => by
    rw [List.filter_cons_of_neg (by simp [opV]), List.filterMap_cons_none rfl]; exact opt_filter l
  | some i :: l => by
    rw [List.filter_cons_of_pos (by simp [opV]), List.filterMap_cons_some (f := id) (b := i) rfl, List.map_cons, List.map_cons, opt_filter l]; rfl
abbrev spLeastOf : Sp := Prm (fun l : List (Option Int) => [rLst (l.map rOp)]) (fun _ => []) (fun l => l.length ≤ 1000) (fun l => rOp (leastO l))
theorem ok_least_of (T : Tp K mg) {fd : FuncData} (F : FunD K "least_of" "least_of" (defArgs (top 63)) (defBody (top 63)) (defScope (top 63)) [] [] (He.ga K "least_of") fd) : FnOk P w K mg base CX0 1 (He.ga K "least_of") fd ["values"] spLeastOf := by
  have sc : FnScope ["values", "found", "value"] ["values"] (defScope (top 63)) := ⟨rfl, rfl, rfl, by decide +kernel, rfl, by decide +kernel, by decide +kernel⟩
  refine fn_prm F sc (fun _ => rfl) (fun _ => by first | exact List.nodup_nil | exact nd_fl | simp) fun cdv A outer s H E hr => ?_
  refine ⟨_, (pss_cons (ps_setLc (i := 1) (own := [("value", 2)]) (by rfl) sc.nd rfl rfl (sw_true rfl rfl rfl (by decide +kernel)) (pi_list (pv 0)) (blkOk_by (by kernel_rfl)) (fun _ _ _ _ _ => (pg_name (i := 2) sc.nd rfl (Or.inl rfl))) (fun _ _ _ _ _ => (pts_one (pt_cmp (pc_notN (pv 2)) rfl))) (fun _ _ _ _ _ => (pv 2)))
      (pss_one (ps_ret (pe_ifExp (pt_cmpR op_gt (pe_callB call_len_seq (by rfl) T.len PySem.boot_len (pa_cons (pv 1) pa_nil)) pe_int (nomark _)) (pe_callB (cr_min rfl) (by rfl) T.min boot_min (pa_cons (pv 1) pa_nil)) pe_non)))), fun l hp => ?_⟩
  have hp : l.length ≤ 1000 := hp
  have e := opt_filter l
  refine hs_set (R := rLI (l.filterMap id)) (EvT.to (ev_lc (xs := l) (f := rOp) (r := rOp) (c := fun o => !decide (opV o = .non)) (src_lst (ev_var rfl)) (small hp) fun o _ => ⟨_, _, tg_name, by simp, eb_b (ev_notN (ev_var rfl)), fun _ => ev_var rfl⟩) (congrArg rLst e)) ?_
  by_cases hf : l.filterMap id = []
  · refine ht_ret (R := rOp (leastO l)) (ev_if (b := false) (EvB.to (eb_test (ev_op (ev_cb (ea_cons (ev_var rfl) ea_nil) vc_lenL) ev_c vo_I0)) (by rw [hf]; rfl)) (fun h => by cases h) fun _ => EvT.to ev_c (by rw [leastO_none hf]; rfl)) rfl
  · have hpos : 0 < (l.filterMap id).length := List.length_pos_iff.mpr hf
    refine ht_ret (R := rOp (leastO l)) (ev_if (b := true) (EvB.to (eb_test (ev_op (ev_cb (ea_cons (ev_var rfl) ea_nil) vc_lenL) ev_c vo_I0)) (by rw [List.length_map]; exact decide_eq_true (by omega))) (fun _ => EvT.sub (ev_cb (ea_cons (ev_var rfl) ea_nil) (vc_min hpos)) fun v G ⟨m, hm, hv⟩ => ?_) (fun h => by cases h)) rfl
    show v = opV (leastO l)
    rw [leastO_some hm.1 hm.2]; exact hv
theorem c_least_of (T : Tp K mg) : Kal P w K mg base 1 "least_of" ["values"] spLeastOf := by
  obtain ⟨⟨fd, F⟩, hm⟩ := T.at_ 40 "least_of" 63
  exact kal_of F hm (ok_least_of T F) (fun _ _ _ _ _ _ us hl => match us, hl with | [_], _ => rfl)
end
end K96
set_option Elab.async false
set_option linter.all false
set_option maxRecDepth 100000
set_option maxHeartbeats 4000000
/-! rooms, margins, rises, losses, critical edges. Own work. -/
namespace K96
open PySem PySem.Spec L2 Rz Cut
section
variable {P : Program} {w : World} {K : PySem.W.Frag} {mg : Str → Option Value} {base : Heap}
/-- whether an edge from u to v leads out of the side -/
def sepP (dir : Bool) (u v : Int) (p : Int → Bool) : Bool := (p u && !p v) || (!dir && (p v && !p u))
/-- the least capacity of the sides out of which u v leads, and of the others -/
noncomputable def aO (y : Nw) (s : List Int) (u v : Int) : Option Int := oMin (fun p => Agree y.ts s p ∧ sepP y.dir u v p = true) (cOf y)
noncomputable def bO (y : Nw) (s : List Int) (u v : Int) : Option Int := oMin (fun p => Agree y.ts s p ∧ sepP y.dir u v p = false) (cOf y)
theorem lo2_none (a : Option Int) : lo2 a none = a := by cases a <;> rfl
theorem ls_ok {y : Nw} (ok : NwOk y) (s ins outs : List Int) : IsO (SideS y.ts s ins outs) (cOf y) (lsO y s ins outs) := oMin_ok fun p _ => cOf_nn ok p
theorem margin_dir {y : Nw} (ok : NwOk y) (hd : y.dir = true) (s : List Int) (u v : Int) : leastO [lsO y s [u] [v]] = aO y s u v := by
  show lo2 (lsO y s [u] [v]) none = _
  rw [lo2_none]
  refine (oMin_eq ((ls_ok ok s [u] [v]).congr (fun p => ?_) fun _ _ => rfl)).symm
  unfold SideS sepP
  rw [hd]
  simp
theorem margin_und {y : Nw} (ok : NwOk y) (hd : y.dir = false) (s : List Int) (u v : Int) : leastO [lsO y s [u] [v], lsO y s [v] [u]] = aO y s u v := by
  show lo2 (lsO y s [u] [v]) (lo2 (lsO y s [v] [u]) none) = _
  rw [lo2_none]
  refine (oMin_eq (((ls_ok ok s [u] [v]).or (ls_ok ok s [v] [u])).congr (fun p => ?_) fun _ _ => rfl)).symm
  unfold SideS sepP
  rw [hd]
  simp only [List.mem_singleton, List.mem_cons, List.not_mem_nil, or_false, forall_eq, forall_eq_or_imp, false_imp_iff, imp_false, implies_true, and_true, true_and]
  cases hu : p u <;> cases hv : p v <;> simp
theorem room_dir {y : Nw} (ok : NwOk y) (hd : y.dir = true) (s : List Int) (u v : Int) : leastO [lsO y s [v] [], lsO y s [] [u]] = bO y s u v := by
  show lo2 (lsO y s [v] []) (lo2 (lsO y s [] [u]) none) = _
  rw [lo2_none]
  refine (oMin_eq (((ls_ok ok s [v] []).or (ls_ok ok s [] [u])).congr (fun p => ?_) fun _ _ => rfl)).symm
  unfold SideS sepP
  rw [hd]
  simp only [List.mem_singleton, List.mem_cons, List.not_mem_nil, or_false, forall_eq, forall_eq_or_imp, false_imp_iff, imp_false, implies_true, and_true, true_and]
  cases hu : p u <;> cases hv : p v <;> simp
theorem room_und {y : Nw} (ok : NwOk y) (hd : y.dir = false) (s : List Int) (u v : Int) : leastO [lsO y s [u, v] [], lsO y s [] [u, v]] = bO y s u v := by
  show lo2 (lsO y s [u, v] []) (lo2 (lsO y s [] [u, v]) none) = _
  rw [lo2_none]
  refine (oMin_eq (((ls_ok ok s [u, v] []).or (ls_ok ok s [] [u, v])).congr (fun p => ?_) fun _ _ => rfl)).symm
  unfold SideS sepP
  rw [hd]
  simp only [List.mem_singleton, List.mem_cons, List.not_mem_nil, or_false, forall_eq, forall_eq_or_imp, false_imp_iff, imp_false, implies_true, and_true, true_and]
  cases hu : p u <;> cases hv : p v <;> simp
noncomputable def margO (y : Nw) (s : List Int) (u v : Int) : Option Int := (aO y s u v).map (· - vOf y s)
noncomputable def roomO (y : Nw) (s : List Int) (u v : Int) : Option Int := (bO y s u v).map (· - vOf y s)
noncomputable abbrev spAbove (K : PySem.W.Frag) : Sp := Prm (fun x : ArgS × Option Int => [rNet K x.1.1, rTI x.1.2, rOp x.2]) (fun _ => []) (fun x => PreS x.1) (fun x => rOp (x.2.map (· - vOf x.1.1 x.1.2)))
theorem ok_above (T : Tp K mg) {fd : FuncData} (F : FunD K "above" "above" (defArgs (top 64)) (defBody (top 64)) (defScope (top 64)) [] [] (He.ga K "above") fd) : FnOk P w K mg base CX0 8 (He.ga K "above") fd ["network", "some", "least"] (spAbove K) := by
  have sc : FnScope ["network", "some", "least"] ["network", "some", "least"] (defScope (top 64)) := ⟨rfl, rfl, rfl, by decide +kernel, rfl, by decide +kernel, by decide +kernel⟩
  have c_cut_value := c_cut_value (P := P) (w := w) (base := base) T
  refine fn_prm F sc (fun _ => rfl) (fun _ => by first | exact List.nodup_nil | exact nd_fl | simp) fun cdv A outer s H E hr => ?_
  refine ⟨_, (pss_one (ps_ret (pe_ifExp (pt_cmp (pc_isN (pv 2)) rfl) pe_non (pe_op op_sub (pv 2) (pe_k c_cut_value hr (by decide) (by rfl) (pa_cons (pv 0) (pa_cons (pv 1) pa_nil))))))), fun x hp => ?_⟩
  obtain ⟨⟨y, s⟩, o⟩ := x
  cases o with
  | none => exact ht_ret (R := rOp none) (ev_if (b := true) (EvB.to (eb_b (ev_isN (ev_var rfl))) (by simp [opV])) (fun _ => ev_c) (fun h => by cases h)) rfl
  | some m => exact ht_ret (R := rOp (some (m - vOf y s))) (ev_if (b := false) (EvB.to (eb_b (ev_isN (ev_var rfl))) (by simp [opV])) (fun h => by cases h) fun _ => ev_op (Ra := rInt m) (ev_var rfl) (ev_call (y, s) (ea_cons (ev_var rfl) (ea_cons (ev_var rfl) ea_nil)) hp) vo_I0) rfl
theorem c_above (T : Tp K mg) : Kal P w K mg base 8 "above" ["network", "some", "least"] (spAbove K) := by
  obtain ⟨⟨fd, F⟩, hm⟩ := T.at_ 41 "above" 64
  exact kal_of F hm (ok_above T F) (fun _ _ _ _ _ _ us hl => match us, hl with | [_, _, _], _ => rfl)
abbrev ArgUV := ArgS × Int × Int
structure PreUV (x : ArgUV) : Prop where
  s : PreS x.1
  u : x.2.1 ∈ x.1.1.ns
  v : x.2.2 ∈ x.1.1.ns
  ne : x.2.1 ≠ x.2.2
theorem PreUV.ls {y : Nw} {s : List Int} {u v : Int} (h : PreUV ((y, s), u, v)) {a b : List Int} (ha : ∀ k ∈ a, k = u ∨ k = v) (hb : ∀ k ∈ b, k = u ∨ k = v) (na : a.Nodup) (nb : b.Nodup) : PreLS ((y, s), a, b) :=
  ⟨h.s, fun k hk => (ha k hk).elim (fun e => by rw [e]; exact h.u) fun e => by rw [e]; exact h.v, fun k hk => (hb k hk).elim (fun e => by rw [e]; exact h.u) fun e => by rw [e]; exact h.v, na, nb⟩
abbrev rsUV (K : PySem.W.Frag) (x : ArgUV) : List Rp := [rNet K x.1.1, rTI x.1.2, rInt x.2.1, rInt x.2.2]
noncomputable abbrev spRoomOf (K : PySem.W.Frag) : Sp := Prm (rsUV K) (fun _ => []) PreUV (fun x => rOp (roomO x.1.1 x.1.2 x.2.1 x.2.2))
theorem ok_room_of (T : Tp K mg) {fd : FuncData} (F : FunD K "room_of" "room_of" (defArgs (top 65)) (defBody (top 65)) (defScope (top 65)) [] [] (He.ga K "room_of") fd) : FnOk P w K mg base CX0 9 (He.ga K "room_of") fd ["network", "some", "u", "v"] (spRoomOf K) := by
  have sc : FnScope ["network", "some", "u", "v", "together"] ["network", "some", "u", "v"] (defScope (top 65)) := ⟨rfl, rfl, rfl, by decide +kernel, rfl, by decide +kernel, by decide +kernel⟩
  have c_above := c_above (P := P) (w := w) (base := base) T
  have c_least_of := c_least_of (P := P) (w := w) (base := base) T
  have c_least_side := c_least_side (P := P) (w := w) (base := base) T
  refine fn_prm F sc (fun _ => rfl) (fun _ => by first | exact List.nodup_nil | exact nd_fl | simp) fun cdv A outer s H E hr => ?_
  refine ⟨_, (pss_cons (ps_if (pt_val (pe_fld (pv 0) rfl)) (pss_one (ps_ret (pe_k c_above hr (by decide) (by rfl) (pa_cons (pv 0) (pa_cons (pv 1) (pa_cons (pe_k c_least_of hr (by decide) (by rfl) (pa_cons (pe_lst (pa_cons (pe_k c_least_side hr (by decide) (by rfl) (pa_cons (pv 0) (pa_cons (pv 1) (pa_cons (pe_lst (pa_cons (pv 3) pa_nil)) (pa_cons (pe_lst pa_nil) pa_nil))))) (pa_cons (pe_k c_least_side hr (by decide) (by rfl) (pa_cons (pv 0) (pa_cons (pv 1) (pa_cons (pe_lst pa_nil) (pa_cons (pe_lst (pa_cons (pv 2) pa_nil)) pa_nil))))) pa_nil))) pa_nil)) pa_nil)))))) pss_nil)
      (pss_cons (ps_set (i := 4) sc.nd rfl (Or.inl rfl) (pe_lst (pa_cons (pe_k c_least_side hr (by decide) (by rfl) (pa_cons (pv 0) (pa_cons (pv 1) (pa_cons (pe_lst (pa_cons (pv 2) (pa_cons (pv 3) pa_nil))) (pa_cons (pe_lst pa_nil) pa_nil))))) (pa_cons (pe_k c_least_side hr (by decide) (by rfl) (pa_cons (pv 0) (pa_cons (pv 1) (pa_cons (pe_lst pa_nil) (pa_cons (pe_lst (pa_cons (pv 2) (pa_cons (pv 3) pa_nil))) pa_nil))))) pa_nil))))
      (pss_one (ps_ret (pe_k c_above hr (by decide) (by rfl) (pa_cons (pv 0) (pa_cons (pv 1) (pa_cons (pe_k c_least_of hr (by decide) (by rfl) (pa_cons (pv 4) pa_nil)) pa_nil)))))))), fun x hp => ?_⟩
  obtain ⟨⟨y, s⟩, u, v⟩ := x
  have ok : NwOk y := hp.s.1
  have ne : u ≠ v := hp.ne
  have one : ∀ {t : Tys} {O : Os} {i : Nat} {a : Int}, t[i]? = some (some (rInt a)) → EvT t O (tLst (tCons (tVar i) tNil)) (rLI [a]) := fun h => ev_lst (ea_cons (ev_var h) ea_nil) (small (by simp))
  have nil : ∀ {t : Tys} {O : Os}, EvT t O (tLst tNil) (rLI []) := fun {t O} => ev_lst ea_nil (small (by simp))
  have two : ∀ {t : Tys} {O : Os} {i j : Nat} {a b : Int}, t[i]? = some (some (rInt a)) → t[j]? = some (some (rInt b)) → EvT t O (tLst (tCons (tVar i) (tCons (tVar j) tNil))) (rLI [a, b]) := fun h h2 => ev_lst (ea_cons (ev_var h) (ea_cons (ev_var h2) ea_nil)) (small (by simp))
  have nd2 : [u, v].Nodup := by simp [ne]
  refine hs_ifRet (eb_b (f_dir T (ev_var rfl))) (fun hd => ?_) fun hd => ?_
  · refine ht_ret (ev_call ((y, s), leastO [lsO y s [v] [], lsO y s [] [u]]) (ea_cons (ev_var rfl) (ea_cons (ev_var rfl) (ea_cons (ev_call [lsO y s [v] [], lsO y s [] [u]] (ea_cons (ev_lst (ea_cons (ev_call ((y, s), [v], []) (ea_cons (ev_var rfl) (ea_cons (ev_var rfl) (ea_cons (one rfl) (ea_cons nil ea_nil)))) (hp.ls (by simp) (by simp) (by simp) (by simp))) (ea_cons (ev_call ((y, s), [], [u]) (ea_cons (ev_var rfl) (ea_cons (ev_var rfl) (ea_cons nil (ea_cons (one rfl) ea_nil)))) (hp.ls (by simp) (by simp) (by simp) (by simp))) ea_nil)) (small (by simp))) ea_nil) (by simp)) ea_nil))) hp.s) ?_
    show rOp _ = rOp _
    rw [room_dir ok hd]; rfl
  · refine hs_set (R := rLst ([lsO y s [u, v] [], lsO y s [] [u, v]].map rOp)) (ev_lst (ea_cons (ev_call ((y, s), [u, v], []) (ea_cons (ev_var rfl) (ea_cons (ev_var rfl) (ea_cons (two rfl rfl) (ea_cons nil ea_nil)))) (hp.ls (by simp) (by simp) nd2 (by simp))) (ea_cons (ev_call ((y, s), [], [u, v]) (ea_cons (ev_var rfl) (ea_cons (ev_var rfl) (ea_cons nil (ea_cons (two rfl rfl) ea_nil)))) (hp.ls (by simp) (by simp) (by simp) nd2)) ea_nil)) (small (by simp))) ?_
    refine ht_ret (ev_call ((y, s), leastO [lsO y s [u, v] [], lsO y s [] [u, v]]) (ea_cons (ev_var rfl) (ea_cons (ev_var rfl) (ea_cons (ev_call [lsO y s [u, v] [], lsO y s [] [u, v]] (ea_cons (ev_var rfl) ea_nil) (by simp)) ea_nil))) hp.s) ?_
    show rOp _ = rOp _
    rw [room_und ok hd]; rfl
theorem c_room_of (T : Tp K mg) : Kal P w K mg base 9 "room_of" ["network", "some", "u", "v"] (spRoomOf K) := by
  obtain ⟨⟨fd, F⟩, hm⟩ := T.at_ 42 "room_of" 65
  exact kal_of F hm (ok_room_of T F) (fun _ _ _ _ _ _ us hl => match us, hl with | [_, _, _, _], _ => rfl)
noncomputable abbrev spMarginOf (K : PySem.W.Frag) : Sp := Prm (rsUV K) (fun _ => []) PreUV (fun x => rOp (margO x.1.1 x.1.2 x.2.1 x.2.2))
theorem ok_margin_of (T : Tp K mg) {fd : FuncData} (F : FunD K "margin_of" "margin_of" (defArgs (top 66)) (defBody (top 66)) (defScope (top 66)) [] [] (He.ga K "margin_of") fd) : FnOk P w K mg base CX0 9 (He.ga K "margin_of") fd ["network", "some", "u", "v"] (spMarginOf K) := by
  have sc : FnScope ["network", "some", "u", "v", "values"] ["network", "some", "u", "v"] (defScope (top 66)) := ⟨rfl, rfl, rfl, by decide +kernel, rfl, by decide +kernel, by decide +kernel⟩
  have c_least_side := c_least_side (P := P) (w := w) (base := base) T
  have c_above := c_above (P := P) (w := w) (base := base) T
  have c_least_of := c_least_of (P := P) (w := w) (base := base) T
  refine fn_prm F sc (fun _ => rfl) (fun _ => by first | exact List.nodup_nil | exact nd_fl | simp) fun cdv A outer s H E hr => ?_
  refine ⟨_, (pss_cons (ps_set (i := 4) sc.nd rfl (Or.inl rfl) (pe_lst (pa_cons (pe_k c_least_side hr (by decide) (by rfl) (pa_cons (pv 0) (pa_cons (pv 1) (pa_cons (pe_lst (pa_cons (pv 2) pa_nil)) (pa_cons (pe_lst (pa_cons (pv 3) pa_nil)) pa_nil))))) pa_nil)))
      (pss_cons (ps_if (pt_not (pt_val (pe_fld (pv 0) rfl))) (pss_one (ps_expr (pe_bm PySem.F.plainAttrs_list PySem.F.slot_list_append PySem.F.type_list_append mt_append (pv 4) (pa_cons (pe_k c_least_side hr (by decide) (by rfl) (pa_cons (pv 0) (pa_cons (pv 1) (pa_cons (pe_lst (pa_cons (pv 3) pa_nil)) (pa_cons (pe_lst (pa_cons (pv 2) pa_nil)) pa_nil))))) pa_nil)))) pss_nil)
      (pss_one (ps_ret (pe_k c_above hr (by decide) (by rfl) (pa_cons (pv 0) (pa_cons (pv 1) (pa_cons (pe_k c_least_of hr (by decide) (by rfl) (pa_cons (pv 4) pa_nil)) pa_nil)))))))), fun x hp => ?_⟩
  obtain ⟨⟨y, s⟩, u, v⟩ := x
  have ok : NwOk y := hp.s.1
  have one : ∀ {t : Tys} {O : Os} {i : Nat} {a : Int}, t[i]? = some (some (rInt a)) → EvT t O (tLst (tCons (tVar i) tNil)) (rLI [a]) := fun h => ev_lst (ea_cons (ev_var h) ea_nil) (small (by simp))
  refine hs_setN (en_lst (Rs := [rOp (lsO y s [u] [v])]) (ea_cons (ev_call ((y, s), [u], [v]) (ea_cons (ev_var rfl) (ea_cons (ev_var rfl) (ea_cons (one rfl) (ea_cons (one rfl) ea_nil)))) (hp.ls (by simp) (by simp) (by simp) (by simp))) ea_nil)) (k := fun p => ?_)
  refine ht_seq (Nx := fun t1 O1 W1 => t1 = [some (rNet K y), some (rTI s), some (rInt u), some (rInt v), some (rRef p)] ∧ (∃ l, O1 = [(p, .lst (l.map rOp))] ∧ l.length ≤ 1000 ∧ leastO l = aO y s u v) ∧ W1 = [p]) (ht_if (eb_not (eb_b (f_dir T (ev_var rfl)))) (fun hd => ?_) fun hd => ht_next ⟨rfl, ⟨[lsO y s [u] [v]], rfl, by simp, margin_dir ok (by simpa using hd) s u v⟩, rfl⟩) ?_
  · have hd : y.dir = false := by simpa using hd
    exact ht_append (k := 0) (R := rOp (lsO y s [v] [u])) (ev_var rfl) (ev_call ((y, s), [v], [u]) (ea_cons (ev_var rfl) (ea_cons (ev_var rfl) (ea_cons (one rfl) (ea_cons (one rfl) ea_nil)))) (hp.ls (by simp) (by simp) (by simp) (by simp))) rfl (.inl (by simp)) (lineBig (by simp)) ⟨rfl, ⟨[lsO y s [u] [v], lsO y s [v] [u]], rfl, by simp, margin_und ok hd s u v⟩, rfl⟩
  · rintro t1 O1 W1 ⟨rfl, ⟨l, rfl, hl, e⟩, rfl⟩
    refine HT.freeze (p := p) (i := 4) (k := 0) (c := .lst _) (rLst _) rfl rfl (by simp) (fun o F' hF hok => oc_lst p o F' hF hok) ?_
    refine ht_ret (ev_call ((y, s), leastO l) (ea_cons (ev_var rfl) (ea_cons (ev_var rfl) (ea_cons (ev_call l (ea_cons (ev_var rfl) ea_nil) hl) ea_nil))) hp.s) ?_
    show rOp _ = rOp _
    rw [e]; rfl
theorem c_margin_of (T : Tp K mg) : Kal P w K mg base 9 "margin_of" ["network", "some", "u", "v"] (spMarginOf K) := by
  obtain ⟨⟨fd, F⟩, hm⟩ := T.at_ 43 "margin_of" 66
  exact kal_of F hm (ok_margin_of T F) (fun _ _ _ _ _ _ us hl => match us, hl with | [_, _, _, _], _ => rfl)
/-! ### checks -/
abbrev spCheckP (K : PySem.W.Frag) : Sp := Prm (fun x : ArgS => [rNet K x.1, rTI x.2]) (fun _ => []) (fun x => PartOk x.1.ts x.2) (fun _ => rNon)
theorem ok_check_part (T : Tp K mg) {fd : FuncData} (F : FunD K "check_part" "check_part" (defArgs (top 59)) (defBody (top 59)) (defScope (top 59)) [] [] (He.ga K "check_part") fd) : FnOk P w K mg base CX0 6 (He.ga K "check_part") fd ["network", "some"] (spCheckP K) := by
  have sc : FnScope ["network", "some"] ["network", "some"] (defScope (top 59)) := ⟨rfl, rfl, rfl, by decide +kernel, rfl, by decide +kernel, by decide +kernel⟩
  have c_is_part := c_is_part (P := P) (w := w) (base := base) T
  refine fn_prm F sc (fun _ => rfl) (fun _ => by first | exact List.nodup_nil | exact nd_fl | simp) fun cdv A outer s H E hr => ?_
  refine ⟨_, (pss_one (ps_if (pt_not (pt_val (pe_k c_is_part hr (by decide) (by rfl) (pa_cons (pe_fld (pv 0) rfl) (pa_cons (pv 1) pa_nil))))) (pss_one ps_never) pss_nil)), fun y hp => ?_⟩
  obtain ⟨x, s⟩ := y
  have hp : PartOk x.ts s := hp
  exact ht_ifNo (EvB.to (eb_not (eb_b (ev_call (x.ts, s) (ea_cons (f_terms T (ev_var rfl)) (ea_cons (ev_var rfl) ea_nil)) ⟨hp.nodes, hp.sub, hp.low, hp.high⟩))) rfl) rfl
theorem c_check_part (T : Tp K mg) : Kal P w K mg base 6 "check_part" ["network", "some"] (spCheckP K) := by
  obtain ⟨⟨fd, F⟩, hm⟩ := T.at_ 36 "check_part" 59
  exact kal_of F hm (ok_check_part T F) (fun _ _ _ _ _ _ us hl => match us, hl with | [_, _], _ => rfl)
abbrev spCheckE (K : PySem.W.Frag) : Sp := Prm (fun x : Nw × Int × Int => [rNet K x.1, rInt x.2.1, rInt x.2.2]) (fun _ => []) (fun x => NodesOk x.1.ns ∧ x.2.1 ∈ x.1.ns ∧ x.2.2 ∈ x.1.ns ∧ x.2.1 ≠ x.2.2) (fun _ => rNon)
theorem ok_check_ends (T : Tp K mg) {fd : FuncData} (F : FunD K "check_ends" "check_ends" (defArgs (top 61)) (defBody (top 61)) (defScope (top 61)) [] [] (He.ga K "check_ends") fd) : FnOk P w K mg base CX0 6 (He.ga K "check_ends") fd ["network", "u", "v"] (spCheckE K) := by
  have sc : FnScope ["network", "u", "v"] ["network", "u", "v"] (defScope (top 61)) := ⟨rfl, rfl, rfl, by decide +kernel, rfl, by decide +kernel, by decide +kernel⟩
  have m_check_node := m_check_node (P := P) (w := w) (base := base) T
  have m_has_node := m_has_node (P := P) (w := w) (base := base) T
  refine fn_prm F sc (fun _ => rfl) (fun _ => by first | exact List.nodup_nil | exact nd_fl | simp) fun cdv A outer s H E hr => ?_
  refine ⟨_, (pss_cons (ps_expr (C8.pe_mt m_check_node hr (by decide) (pv 0) (pa_cons (pv 1) pa_nil)))
      (pss_one (ps_if (PW.pt (pw_or (pt_not (pt_val (C8.pe_mt m_has_node hr (by decide) (pv 0) (pa_cons (pv 2) pa_nil)))) (pw_or1 (pt_cmpR op_eq (pv 1) (pv 2) (nomark _))))) (pss_one ps_never) pss_nil))), fun x hp => ?_⟩
  obtain ⟨y, u, v⟩ := x
  obtain ⟨hn, hu, hv, ne⟩ := hp
  have hv : v ∈ y.ns := hv
  have ne : u ≠ v := ne
  refine hs_drop (ev_meth (y, u) (ev_var rfl) (ea_cons (ev_var rfl) ea_nil) rfl rfl ⟨hn, hu⟩) ?_
  exact ht_ifNo (EvB.to (eb_or (eb_not (eb_b (ev_meth (y, v) (ev_var rfl) (ea_cons (ev_var rfl) ea_nil) rfl rfl hn))) fun _ => eb_test (ev_op (ev_var rfl) (ev_var rfl) vo_eqI)) (by show (!decide (v ∈ y.ns) || decide (u = v)) = false; rw [decide_eq_true hv, decide_eq_false ne]; rfl)) rfl
theorem c_check_ends (T : Tp K mg) : Kal P w K mg base 6 "check_ends" ["network", "u", "v"] (spCheckE K) := by
  obtain ⟨⟨fd, F⟩, hm⟩ := T.at_ 38 "check_ends" 61
  exact kal_of F hm (ok_check_ends T F) (fun _ _ _ _ _ _ us hl => match us, hl with | [_, _, _], _ => rfl)
theorem PreUV.ends {y : Nw} {s : List Int} {u v : Int} (h : PreUV ((y, s), u, v)) : NodesOk y.ns ∧ u ∈ y.ns ∧ v ∈ y.ns ∧ u ≠ v := ⟨h.s.1.nodes, h.u, h.v, h.ne⟩
noncomputable abbrev spRoomN (K : PySem.W.Frag) : Sp := Prm (rsUV K) (fun _ => []) PreUV (fun x => rOp (roomO x.1.1 x.1.2 x.2.1 x.2.2))
theorem ok_room (T : Tp K mg) {fd : FuncData} (F : FunD K "room" "room" (defArgs (top 67)) (defBody (top 67)) (defScope (top 67)) [] [] (He.ga K "room") fd) : FnOk P w K mg base CX0 10 (He.ga K "room") fd ["network", "some", "u", "v"] (spRoomN K) := by
  have sc : FnScope ["network", "some", "u", "v"] ["network", "some", "u", "v"] (defScope (top 67)) := ⟨rfl, rfl, rfl, by decide +kernel, rfl, by decide +kernel, by decide +kernel⟩
  have c_check_part := c_check_part (P := P) (w := w) (base := base) T
  have c_check_ends := c_check_ends (P := P) (w := w) (base := base) T
  have c_room_of := c_room_of (P := P) (w := w) (base := base) T
  refine fn_prm F sc (fun _ => rfl) (fun _ => by first | exact List.nodup_nil | exact nd_fl | simp) fun cdv A outer s H E hr => ?_
  refine ⟨_, (pss_cons (ps_expr (pe_k c_check_part hr (by decide) (by rfl) (pa_cons (pv 0) (pa_cons (pv 1) pa_nil))))
      (pss_cons (ps_expr (pe_k c_check_ends hr (by decide) (by rfl) (pa_cons (pv 0) (pa_cons (pv 2) (pa_cons (pv 3) pa_nil)))))
      (pss_one (ps_ret (pe_k c_room_of hr (by decide) (by rfl) (pa_cons (pv 0) (pa_cons (pv 1) (pa_cons (pv 2) (pa_cons (pv 3) pa_nil))))))))), fun x hp => ?_⟩
  obtain ⟨⟨y, s⟩, u, v⟩ := x
  refine hs_drop (ev_call (y, s) (ea_cons (ev_var rfl) (ea_cons (ev_var rfl) ea_nil)) hp.s.2) ?_
  refine hs_drop (ev_call (y, u, v) (ea_cons (ev_var rfl) (ea_cons (ev_var rfl) (ea_cons (ev_var rfl) ea_nil))) hp.ends) ?_
  exact ht_ret (ev_call ((y, s), u, v) (ea_cons (ev_var rfl) (ea_cons (ev_var rfl) (ea_cons (ev_var rfl) (ea_cons (ev_var rfl) ea_nil)))) hp) rfl
theorem c_room (T : Tp K mg) : Kal P w K mg base 10 "room" ["network", "some", "u", "v"] (spRoomN K) := by
  obtain ⟨⟨fd, F⟩, hm⟩ := T.at_ 44 "room" 67
  exact kal_of F hm (ok_room T F) (fun _ _ _ _ _ _ us hl => match us, hl with | [_, _, _, _], _ => rfl)
theorem kw_room_0_v_u_some_network (T : Tp K mg) : KalK P w K mg base 10 "room" 0 ["v", "u", "some", "network"] (fun us ws => us ++ pick [3, 2, 1, 0] ws) (spRoomN K) := by
  obtain ⟨⟨fd, F⟩, hm⟩ := T.at_ 44 "room" 67
  exact kalk_of (n := 0) (ks := ["v", "u", "some", "network"]) (fun us ws => us ++ pick [3, 2, 1, 0] ws) F hm (ok_room T F) (fun r1 r2 => r1.append (vals_pick r2 _)) (fun _ _ _ _ _ _ us ws h1 h2 => match us, h1, ws, h2 with | [], _, [_, _, _, _], _ => rfl)
noncomputable abbrev spMarginN (K : PySem.W.Frag) : Sp := Prm (rsUV K) (fun _ => []) PreUV (fun x => rOp (margO x.1.1 x.1.2 x.2.1 x.2.2))
theorem ok_margin (T : Tp K mg) {fd : FuncData} (F : FunD K "margin" "margin" (defArgs (top 69)) (defBody (top 69)) (defScope (top 69)) [] [] (He.ga K "margin") fd) : FnOk P w K mg base CX0 10 (He.ga K "margin") fd ["network", "some", "u", "v"] (spMarginN K) := by
  have sc : FnScope ["network", "some", "u", "v"] ["network", "some", "u", "v"] (defScope (top 69)) := ⟨rfl, rfl, rfl, by decide +kernel, rfl, by decide +kernel, by decide +kernel⟩
  have c_check_part := c_check_part (P := P) (w := w) (base := base) T
  have c_check_ends := c_check_ends (P := P) (w := w) (base := base) T
  have c_margin_of := c_margin_of (P := P) (w := w) (base := base) T
  refine fn_prm F sc (fun _ => rfl) (fun _ => by first | exact List.nodup_nil | exact nd_fl | simp) fun cdv A outer s H E hr => ?_
  refine ⟨_, (pss_cons (ps_expr (pe_k c_check_part hr (by decide) (by rfl) (pa_cons (pv 0) (pa_cons (pv 1) pa_nil))))
      (pss_cons (ps_expr (pe_k c_check_ends hr (by decide) (by rfl) (pa_cons (pv 0) (pa_cons (pv 2) (pa_cons (pv 3) pa_nil)))))
      (pss_one (ps_ret (pe_k c_margin_of hr (by decide) (by rfl) (pa_cons (pv 0) (pa_cons (pv 1) (pa_cons (pv 2) (pa_cons (pv 3) pa_nil))))))))), fun x hp => ?_⟩
  obtain ⟨⟨y, s⟩, u, v⟩ := x
  refine hs_drop (ev_call (y, s) (ea_cons (ev_var rfl) (ea_cons (ev_var rfl) ea_nil)) hp.s.2) ?_
  refine hs_drop (ev_call (y, u, v) (ea_cons (ev_var rfl) (ea_cons (ev_var rfl) (ea_cons (ev_var rfl) ea_nil))) hp.ends) ?_
  exact ht_ret (ev_call ((y, s), u, v) (ea_cons (ev_var rfl) (ea_cons (ev_var rfl) (ea_cons (ev_var rfl) (ea_cons (ev_var rfl) ea_nil)))) hp) rfl
theorem c_margin (T : Tp K mg) : Kal P w K mg base 10 "margin" ["network", "some", "u", "v"] (spMarginN K) := by
  obtain ⟨⟨fd, F⟩, hm⟩ := T.at_ 46 "margin" 69
  exact kal_of F hm (ok_margin T F) (fun _ _ _ _ _ _ us hl => match us, hl with | [_, _, _, _], _ => rfl)
theorem kw_margin_0_v_u_some_network (T : Tp K mg) : KalK P w K mg base 10 "margin" 0 ["v", "u", "some", "network"] (fun us ws => us ++ pick [3, 2, 1, 0] ws) (spMarginN K) := by
  obtain ⟨⟨fd, F⟩, hm⟩ := T.at_ 46 "margin" 69
  exact kalk_of (n := 0) (ks := ["v", "u", "some", "network"]) (fun us ws => us ++ pick [3, 2, 1, 0] ws) F hm (ok_margin T F) (fun r1 r2 => r1.append (vals_pick r2 _)) (fun _ _ _ _ _ _ us ws h1 h2 => match us, h1, ws, h2 with | [], _, [_, _, _, _], _ => rfl)
/-- how much a capacity more lets a cut value rise by; how much it loses -/
def riseV : Option Int → Int → Int
  | none, m => m
  | some l, m => if l < m then l else m
def lossV : Option Int → Int → Int
  | none, _ => 0
  | some l, f => if f - l > 0 then f - l else 0
abbrev ArgUVN := ArgUV × Int
noncomputable abbrev spRise (K : PySem.W.Frag) : Sp := Prm (fun x : ArgUVN => rsUV K x.1 ++ [rInt x.2]) (fun _ => []) (fun x => PreUV x.1 ∧ 0 ≤ x.2 ∧ x.2 ≤ 1000000) (fun x => rInt (riseV (roomO x.1.1.1 x.1.1.2 x.1.2.1 x.1.2.2) x.2))
theorem ok_rise (T : Tp K mg) {fd : FuncData} (F : FunD K "rise" "rise" (defArgs (top 68)) (defBody (top 68)) (defScope (top 68)) [] [] (He.ga K "rise") fd) : FnOk P w K mg base CX0 10 (He.ga K "rise") fd ["network", "some", "u", "v", "more"] (spRise K) := by
  have sc : FnScope ["network", "some", "u", "v", "more", "limit"] ["network", "some", "u", "v", "more"] (defScope (top 68)) := ⟨rfl, rfl, rfl, by decide +kernel, rfl, by decide +kernel, by decide +kernel⟩
  have c_check_part := c_check_part (P := P) (w := w) (base := base) T
  have c_check_ends := c_check_ends (P := P) (w := w) (base := base) T
  have c_is_between := c_is_between (P := P) (w := w) (base := base) T
  have c_room_of := c_room_of (P := P) (w := w) (base := base) T
  refine fn_prm F sc (fun _ => rfl) (fun _ => by first | exact List.nodup_nil | exact nd_fl | simp) fun cdv A outer s H E hr => ?_
  refine ⟨_, (pss_cons (ps_expr (pe_k c_check_part hr (by decide) (by rfl) (pa_cons (pv 0) (pa_cons (pv 1) pa_nil))))
      (pss_cons (ps_expr (pe_k c_check_ends hr (by decide) (by rfl) (pa_cons (pv 0) (pa_cons (pv 2) (pa_cons (pv 3) pa_nil)))))
      (pss_cons (ps_if (pt_not (pt_val (pe_k c_is_between hr (by decide) (by rfl) (pa_cons (pv 4) (pa_cons pe_int (pa_cons (pe_cn (by rfl) T.MOST_CAPACITY) pa_nil)))))) (pss_one ps_never) pss_nil)
      (pss_cons (ps_set (i := 5) sc.nd rfl (Or.inl rfl) (pe_k c_room_of hr (by decide) (by rfl) (pa_cons (pv 0) (pa_cons (pv 1) (pa_cons (pv 2) (pa_cons (pv 3) pa_nil))))))
      (pss_one (ps_ret (pe_ifExp (pt_cmp (pc_isN (pv 5)) rfl) (pv 4) (pe_callB (call_min2 rfl) (by rfl) T.min boot_min (pa_cons (pv 4) (pa_cons (pv 5) pa_nil)))))))))), fun x hp => ?_⟩
  obtain ⟨⟨⟨y, s⟩, u, v⟩, m⟩ := x
  obtain ⟨hp, h0, h1⟩ := hp
  have hp : PreUV ((y, s), u, v) := hp
  have h0 : 0 ≤ m := h0
  have h1 : m ≤ 1000000 := h1
  refine hs_drop (ev_call (y, s) (ea_cons (ev_var rfl) (ea_cons (ev_var rfl) ea_nil)) hp.s.2) ?_
  refine hs_drop (ev_call (y, u, v) (ea_cons (ev_var rfl) (ea_cons (ev_var rfl) (ea_cons (ev_var rfl) ea_nil))) hp.ends) ?_
  refine hs_ifNo (EvB.to (eb_not (eb_b (ev_call (m, 0, 1000000) (ea_cons (ev_var rfl) (ea_cons ev_c (ea_cons ev_c ea_nil))) trivial))) (by show (!(decide (0 ≤ m) && decide (m ≤ 1000000))) = false; rw [decide_eq_true h0, decide_eq_true h1]; rfl)) ?_
  refine hs_set (R := rOp (roomO y s u v)) (ev_call ((y, s), u, v) (ea_cons (ev_var rfl) (ea_cons (ev_var rfl) (ea_cons (ev_var rfl) (ea_cons (ev_var rfl) ea_nil)))) hp) ?_
  show HT _ _ _ _ _ _ (fun R' _ _ => R' = rInt (riseV (roomO y s u v) m))
  cases roomO y s u v with
  | none => exact ht_ret (R := rInt m) (ev_if (b := true) (EvB.to (eb_b (ev_isN (ev_var rfl))) (by simp [opV])) (fun _ => ev_var rfl) (fun h => by cases h)) rfl
  | some l => exact ht_ret (ev_if (b := false) (EvB.to (eb_b (ev_isN (ev_var rfl))) (by simp [opV])) (fun h => by cases h) fun _ => ev_cb (ea_cons (ev_var rfl) (ea_cons (ev_var (R := rInt l) rfl) ea_nil)) vc_min2) rfl
theorem c_rise (T : Tp K mg) : Kal P w K mg base 10 "rise" ["network", "some", "u", "v", "more"] (spRise K) := by
  obtain ⟨⟨fd, F⟩, hm⟩ := T.at_ 45 "rise" 68
  exact kal_of F hm (ok_rise T F) (fun _ _ _ _ _ _ us hl => match us, hl with | [_, _, _, _, _], _ => rfl)
noncomputable abbrev spLoss (K : PySem.W.Frag) : Sp := Prm (fun x : ArgUVN => rsUV K x.1 ++ [rInt x.2]) (fun _ => []) (fun x => PreUV x.1 ∧ 0 ≤ x.2 ∧ x.2 ≤ capE x.1.1.1.es (keyE x.1.1.1.dir x.1.2.1 x.1.2.2)) (fun x => rInt (lossV (margO x.1.1.1 x.1.1.2 x.1.2.1 x.1.2.2) x.2))
theorem ok_loss (T : Tp K mg) {fd : FuncData} (F : FunD K "loss" "loss" (defArgs (top 70)) (defBody (top 70)) (defScope (top 70)) [] [] (He.ga K "loss") fd) : FnOk P w K mg base CX0 10 (He.ga K "loss") fd ["network", "some", "u", "v", "fewer"] (spLoss K) := by
  have sc : FnScope ["network", "some", "u", "v", "fewer", "limit"] ["network", "some", "u", "v", "fewer"] (defScope (top 70)) := ⟨rfl, rfl, rfl, by decide +kernel, rfl, by decide +kernel, by decide +kernel⟩
  have c_check_part := c_check_part (P := P) (w := w) (base := base) T
  have c_check_ends := c_check_ends (P := P) (w := w) (base := base) T
  have c_is_between := c_is_between (P := P) (w := w) (base := base) T
  have m_capacity := m_capacity (P := P) (w := w) (base := base) T
  have c_margin_of := c_margin_of (P := P) (w := w) (base := base) T
  refine fn_prm F sc (fun _ => rfl) (fun _ => by first | exact List.nodup_nil | exact nd_fl | simp) fun cdv A outer s H E hr => ?_
  refine ⟨_, (pss_cons (ps_expr (pe_k c_check_part hr (by decide) (by rfl) (pa_cons (pv 0) (pa_cons (pv 1) pa_nil))))
      (pss_cons (ps_expr (pe_k c_check_ends hr (by decide) (by rfl) (pa_cons (pv 0) (pa_cons (pv 2) (pa_cons (pv 3) pa_nil)))))
      (pss_cons (ps_if (pt_not (pt_val (pe_k c_is_between hr (by decide) (by rfl) (pa_cons (pv 4) (pa_cons pe_int (pa_cons (C8.pe_mt m_capacity hr (by decide) (pv 0) (pa_cons (pv 2) (pa_cons (pv 3) pa_nil))) pa_nil)))))) (pss_one ps_never) pss_nil)
      (pss_cons (ps_set (i := 5) sc.nd rfl (Or.inl rfl) (pe_k c_margin_of hr (by decide) (by rfl) (pa_cons (pv 0) (pa_cons (pv 1) (pa_cons (pv 2) (pa_cons (pv 3) pa_nil))))))
      (pss_one (ps_ret (pe_ifExp (pt_cmp (pc_isN (pv 5)) rfl) pe_int (pe_callB (call_max2 rfl) (by rfl) T.max boot_max (pa_cons pe_int (pa_cons (pe_op op_sub (pv 4) (pv 5)) pa_nil)))))))))), fun x hp => ?_⟩
  obtain ⟨⟨⟨y, s⟩, u, v⟩, m⟩ := x
  obtain ⟨hp, h0, h1⟩ := hp
  have hp : PreUV ((y, s), u, v) := hp
  have h0 : 0 ≤ m := h0
  have h1 : m ≤ capE y.es (keyE y.dir u v) := h1
  refine hs_drop (ev_call (y, s) (ea_cons (ev_var rfl) (ea_cons (ev_var rfl) ea_nil)) hp.s.2) ?_
  refine hs_drop (ev_call (y, u, v) (ea_cons (ev_var rfl) (ea_cons (ev_var rfl) (ea_cons (ev_var rfl) ea_nil))) hp.ends) ?_
  refine hs_ifNo (EvB.to (eb_not (eb_b (ev_call (m, 0, capE y.es (keyE y.dir u v)) (ea_cons (ev_var rfl) (ea_cons ev_c (ea_cons (ev_meth (y, u, v) (ev_var rfl) (ea_cons (ev_var rfl) (ea_cons (ev_var rfl) ea_nil)) rfl rfl ⟨hp.s.1, hp.u, hp.v⟩) ea_nil))) trivial))) (by show (!(decide (0 ≤ m) && decide (m ≤ capE y.es (keyE y.dir u v)))) = false; rw [decide_eq_true h0, decide_eq_true h1]; rfl)) ?_
  refine hs_set (R := rOp (margO y s u v)) (ev_call ((y, s), u, v) (ea_cons (ev_var rfl) (ea_cons (ev_var rfl) (ea_cons (ev_var rfl) (ea_cons (ev_var rfl) ea_nil)))) hp) ?_
  show HT _ _ _ _ _ _ (fun R' _ _ => R' = rInt (lossV (margO y s u v) m))
  cases margO y s u v with
  | none => exact ht_ret (R := rInt 0) (ev_if (b := true) (EvB.to (eb_b (ev_isN (ev_var rfl))) (by simp [opV])) (fun _ => ev_c) (fun h => by cases h)) rfl
  | some l => exact ht_ret (ev_if (b := false) (EvB.to (eb_b (ev_isN (ev_var rfl))) (by simp [opV])) (fun h => by cases h) fun _ => ev_cb (ea_cons ev_c (ea_cons (ev_op (ev_var rfl) (ev_var (R := rInt l) rfl) vo_I0) ea_nil)) vc_max2) rfl
theorem c_loss (T : Tp K mg) : Kal P w K mg base 10 "loss" ["network", "some", "u", "v", "fewer"] (spLoss K) := by
  obtain ⟨⟨fd, F⟩, hm⟩ := T.at_ 47 "loss" 70
  exact kal_of F hm (ok_loss T F) (fun _ _ _ _ _ _ us hl => match us, hl with | [_, _, _, _, _], _ => rfl)
theorem kw_loss_0_fewer_v_u_some_network (T : Tp K mg) : KalK P w K mg base 10 "loss" 0 ["fewer", "v", "u", "some", "network"] (fun us ws => us ++ pick [4, 3, 2, 1, 0] ws) (spLoss K) := by
  obtain ⟨⟨fd, F⟩, hm⟩ := T.at_ 47 "loss" 70
  exact kalk_of (n := 0) (ks := ["fewer", "v", "u", "some", "network"]) (fun us ws => us ++ pick [4, 3, 2, 1, 0] ws) F hm (ok_loss T F) (fun r1 r2 => r1.append (vals_pick r2 _)) (fun _ _ _ _ _ _ us ws h1 h2 => match us, h1, ws, h2 with | [], _, [_, _, _, _, _], _ => rfl)
/-! ### critical edges -/
abbrev ArgP := List Int × List (List Int) × Bool
def PreP (x : ArgP) : Prop := x.2.1.length ≤ 20 ∧ ∀ s ∈ x.2.1, PartOk x.1 s
abbrev spAreParts : Sp := Prm (fun x : ArgP => [rTI x.1, rSq x.2.2 (x.2.1.map rTI)]) (fun _ => []) PreP (fun _ => rBl true)
theorem ok_are_parts (T : Tp K mg) {fd : FuncData} (F : FunD K "are_parts" "are_parts" (defArgs (top 52)) (defBody (top 52)) (defScope (top 52)) [] [] (He.ga K "are_parts") fd) : FnOk P w K mg base CX0 6 (He.ga K "are_parts") fd ["terminals", "value"] spAreParts := by
  have sc : FnScope ["terminals", "value", "some"] ["terminals", "value"] (defScope (top 52)) := ⟨rfl, rfl, rfl, by decide +kernel, rfl, by decide +kernel, by decide +kernel⟩
  have c_is_list := c_is_list (P := P) (w := w) (base := base) T
  have c_is_part := c_is_part (P := P) (w := w) (base := base) T
  refine fn_prm F sc (fun _ => rfl) (fun _ => by first | exact List.nodup_nil | exact nd_fl | simp) fun cdv A outer s H E hr => ?_
  refine ⟨_, (pss_one (ps_ret (pe_and (pe_k c_is_list hr (by decide) (by rfl) (pa_cons (pv 1) pa_nil)) (pe_and (pe_cmpR op_le (pe_callB call_len_seq (by rfl) T.len PySem.boot_len (pa_cons (pv 1) pa_nil)) (pe_cn (by rfl) T.MOST_SETS) (nomark _)) (pe_one (pe_callB (cr_all rfl) (by rfl) T.all boot_all (pa_cons (pe_lc (own := [("some", 2)]) (by rfl) sc.nd (pi_seqK K (pv 1)) (blkOk_by (by kernel_rfl)) (fun _ _ _ _ _ => (pg_name (i := 2) sc.nd rfl (Or.inl rfl))) (fun _ _ _ _ _ => pts_nil) (fun _ _ _ _ _ => (pe_k c_is_part hr (by decide) (by rfl) (pa_cons (pv 0) (pa_cons (pv 2) pa_nil))))) pa_nil))))))), fun x hp => ?_⟩
  obtain ⟨ts, ss, b⟩ := x
  obtain ⟨hl, hs⟩ := hp
  have hl : ss.length ≤ 20 := hl
  refine ht_ret (ev_and (ev_call (rSq b (ss.map rTI)) (ea_cons (ev_var rfl) ea_nil) sq_ty) fun _ => ev_and (ev_op (ev_cb (ea_cons (ev_var rfl) ea_nil) vc_lenS) ev_c vo_I0) fun _ => ev_cb (ea_cons (ev_lc0 (xs := ss) (f := rTI) (r := fun _ => rBl true) (src_sq (ev_var rfl)) (small (by omega)) fun s hm => ⟨_, _, tg_name, by simp, ev_call (ts, s) (ea_cons (ev_var rfl) (ea_cons (ev_var rfl) ea_nil)) ⟨(hs s hm).nodes, (hs s hm).sub, (hs s hm).low, (hs s hm).high⟩⟩) ea_nil) vc_allF) ?_
  show rBl (true && (decide _ && ss.all fun _ => true)) = rBl true
  rw [List.length_map, decide_eq_true (by omega), all_of fun _ _ => rfl]; rfl
theorem c_are_parts (T : Tp K mg) : Kal P w K mg base 6 "are_parts" ["terminals", "value"] spAreParts := by
  obtain ⟨⟨fd, F⟩, hm⟩ := T.at_ 31 "are_parts" 52
  exact kal_of F hm (ok_are_parts T F) (fun _ _ _ _ _ _ us hl => match us, hl with | [_, _], _ => rfl)
abbrev spCheckPs (K : PySem.W.Frag) : Sp := Prm (fun x : Nw × List (List Int) × Bool => [rNet K x.1, rSq x.2.2 (x.2.1.map rTI)]) (fun _ => []) (fun x => PreP (x.1.ts, x.2)) (fun _ => rNon)
theorem ok_check_parts (T : Tp K mg) {fd : FuncData} (F : FunD K "check_parts" "check_parts" (defArgs (top 60)) (defBody (top 60)) (defScope (top 60)) [] [] (He.ga K "check_parts") fd) : FnOk P w K mg base CX0 7 (He.ga K "check_parts") fd ["network", "sets"] (spCheckPs K) := by
  have sc : FnScope ["network", "sets"] ["network", "sets"] (defScope (top 60)) := ⟨rfl, rfl, rfl, by decide +kernel, rfl, by decide +kernel, by decide +kernel⟩
  have c_are_parts := c_are_parts (P := P) (w := w) (base := base) T
  refine fn_prm F sc (fun _ => rfl) (fun _ => by first | exact List.nodup_nil | exact nd_fl | simp) fun cdv A outer s H E hr => ?_
  refine ⟨_, (pss_one (ps_if (pt_not (pt_val (pe_k c_are_parts hr (by decide) (by rfl) (pa_cons (pe_fld (pv 0) rfl) (pa_cons (pv 1) pa_nil))))) (pss_one ps_never) pss_nil)), fun x hp => ?_⟩
  obtain ⟨y, ss, b⟩ := x
  exact ht_ifNo (EvB.to (eb_not (eb_b (ev_call (y.ts, ss, b) (ea_cons (f_terms T (ev_var rfl)) (ea_cons (ev_var rfl) ea_nil)) hp))) rfl) rfl
theorem c_check_parts (T : Tp K mg) : Kal P w K mg base 7 "check_parts" ["network", "sets"] (spCheckPs K) := by
  obtain ⟨⟨fd, F⟩, hm⟩ := T.at_ 37 "check_parts" 60
  exact kal_of F hm (ok_check_parts T F) (fun _ _ _ _ _ _ us hl => match us, hl with | [_, _], _ => rfl)
noncomputable def critE (y : Nw) (ss : List (List Int)) : Edges := y.es.filter fun e => ss.any fun s => decide (opV (margO y s e.1 e.2.1) = .int 0)
noncomputable abbrev spCrit (K : PySem.W.Frag) : Sp := Prm (fun x : Nw × List (List Int) × Bool => [rNet K x.1, rSq x.2.2 (x.2.1.map rTI)]) (fun _ => []) (fun x => NwOk x.1 ∧ PreP (x.1.ts, x.2)) (fun x => rLst ((critE x.1 x.2.1).map rEd))
theorem ok_critical (T : Tp K mg) {fd : FuncData} (F : FunD K "critical" "critical" (defArgs (top 71)) (defBody (top 71)) (defScope (top 71)) [] [] (He.ga K "critical") fd) : FnOk P w K mg base CX0 10 (He.ga K "critical") fd ["network", "sets"] (spCrit K) := by
  have sc : FnScope ["network", "sets", "edge", "some"] ["network", "sets"] (defScope (top 71)) := ⟨rfl, rfl, rfl, by decide +kernel, rfl, by decide +kernel, by decide +kernel⟩
  have c_check_parts := c_check_parts (P := P) (w := w) (base := base) T
  have c_margin_of := c_margin_of (P := P) (w := w) (base := base) T
  refine fn_prm F sc (fun _ => rfl) (fun _ => by first | exact List.nodup_nil | exact nd_fl | simp) fun cdv A outer s H E hr => ?_
  refine ⟨_, (pss_cons (ps_expr (pe_k c_check_parts hr (by decide) (by rfl) (pa_cons (pv 0) (pa_cons (pv 1) pa_nil))))
      (pss_one (ps_ret (pe_lc (own := [("edge", 2)]) (by rfl) sc.nd (pi_tup (pe_fld (pv 0) rfl)) (blkOk_by (by kernel_rfl)) (fun _ _ _ _ _ => (pg_name (i := 2) sc.nd rfl (Or.inr rfl))) (fun _ _ _ _ _ => (pts_one (pt_val (pe_callB (anyK_ K rfl) (by rfl) T.any boot_any (pa_cons (pe_lc (own := [("some", 3)]) (by rfl) sc.nd (pi_seqK K (pv 1)) (blkOk_by (by kernel_rfl)) (fun _ _ _ _ _ => (pg_name (i := 3) sc.nd rfl (Or.inl rfl))) (fun _ _ _ _ _ => pts_nil) (fun _ _ _ _ _ => (pe_cmpR op_eq (pe_k c_margin_of hr (by decide) (by rfl) (pa_cons (pv 0) (pa_cons (pv 3) (pa_cons (pe_ix (ix_tupK K) (pv 2) pe_int (fun _ _ => rfl)) (pa_cons (pe_ix (ix_tupK K) (pv 2) pe_int (fun _ _ => rfl)) pa_nil))))) pe_int (nomark _)))) pa_nil))))) (fun _ _ _ _ _ => (pv 2)))))), fun x hp => ?_⟩
  obtain ⟨y, ss, b⟩ := x
  obtain ⟨ok, hp⟩ := hp
  have ok : NwOk y := ok
  have hl : ss.length ≤ 20 := hp.1
  have hs : ∀ s ∈ ss, PartOk y.ts s := hp.2
  have le := ok.elen
  refine hs_drop (ev_call (y, ss, b) (ea_cons (ev_var rfl) (ea_cons (ev_var rfl) ea_nil)) hp) ?_
  refine ht_ret (ev_lc (xs := y.es) (f := rEd) (r := rEd) (c := fun e => ss.any fun s => decide (opV (margO y s e.1 e.2.1) = .int 0)) (src_tup (f_edges T (ev_var rfl))) (small (by omega)) fun e he => ⟨_, _, tg_name, by simp, eb_b (ev_cb (ea_cons (ev_lc0 (xs := ss) (f := rTI) (r := fun s => rBl (decide (opV (margO y s e.1 e.2.1) = .int 0))) (src_sq (ev_var rfl)) (small (by omega)) fun s hm => ⟨_, _, tg_name, by simp, ev_op (ev_call ((y, s), e.1, e.2.1) (ea_cons (ev_var rfl) (ea_cons (ev_var rfl) (ea_cons (ev_op (ev_var rfl) ev_c (vo_ixT (j := 0) rfl rfl)) (ea_cons (ev_op (ev_var rfl) ev_c (vo_ixT (j := 1) rfl rfl)) ea_nil)))) ⟨⟨ok, hs s hm⟩, (ok.edges.inV e he).1, (ok.edges.inV e he).2, ok.edges.ne e he⟩) ev_c (vo_eq (by cases margO y s e.1 e.2.1 <;> rfl))⟩) ea_nil) vc_anyF), fun _ => ev_var rfl⟩) rfl
theorem c_critical (T : Tp K mg) : Kal P w K mg base 10 "critical" ["network", "sets"] (spCrit K) := by
  obtain ⟨⟨fd, F⟩, hm⟩ := T.at_ 48 "critical" 71
  exact kal_of F hm (ok_critical T F) (fun _ _ _ _ _ _ us hl => match us, hl with | [_, _], _ => rfl)
theorem kw_critical_0_sets_network (T : Tp K mg) : KalK P w K mg base 10 "critical" 0 ["sets", "network"] (fun us ws => us ++ pick [1, 0] ws) (spCrit K) := by
  obtain ⟨⟨fd, F⟩, hm⟩ := T.at_ 48 "critical" 71
  exact kalk_of (n := 0) (ks := ["sets", "network"]) (fun us ws => us ++ pick [1, 0] ws) F hm (ok_critical T F) (fun r1 r2 => r1.append (vals_pick r2 _)) (fun _ _ _ _ _ _ us ws h1 h2 => match us, h1, ws, h2 with | [], _, [_, _], _ => rfl)
end
end K96
set_option Elab.async false
set_option linter.all false
set_option maxRecDepth 100000
set_option maxHeartbeats 4000000
/-! draws from a box. Own work. -/
namespace K96
open PySem PySem.Spec L2 Rz Cut
section
variable {P : Program} {w : World} {K : PySem.W.Frag} {mg : Str → Option Value} {base : Heap}
/-- some int, some bool -/
abbrev rAI : Rp := rEx (fun _ : Int => True) fun i => rInt i
abbrev rAB : Rp := rEx (fun _ : Bool => True) fun b => rBl b
abbrev boxR : List Rp := [rAI, rAB, rAI, rAI]
abbrev boxC : OC := .lst boxR
theorem toAI {t : Tys} {O : Os} {te : TE} {i : Int} (h : EvT t O te (rInt i)) : EvT t O te rAI := h.intro i trivial
abbrev spBox : Sp := PrmN (fun i : Int => [rInt i]) (fun _ => []) (fun _ => True) (fun _ c => c = boxC)
theorem ok__law_box (T : Tp K mg) {fd : FuncData} (F : FunD K "_law_box" "_law_box" (defArgs (top 74)) (defBody (top 74)) (defScope (top 74)) [] [] (He.ga K "_law_box") fd) : FnOk P w K mg base CX0 1 (He.ga K "_law_box") fd ["great"] spBox := by
  have sc : FnScope ["great"] ["great"] (defScope (top 74)) := ⟨rfl, rfl, rfl, by decide +kernel, rfl, by decide +kernel, by decide +kernel⟩
  refine fn_prmN F sc (fun _ => rfl) (fun _ => by first | exact List.nodup_nil | exact nd_fl | simp) fun cdv A outer s H E hr => ?_
  refine ⟨_, (pss_one (ps_ret (pe_lst (pa_cons (pe_callB call_abs (by rfl) T.abs boot_abs (pa_cons (pv 0) pa_nil)) (pa_cons (pe_cmpR op_ge (pe_callB call_abs (by rfl) T.abs boot_abs (pa_cons (pv 0) pa_nil)) (pe_op op_pow pe_int pe_int) (nomark _)) (pa_cons (pe_op op_mod (pe_callTy call_int1 (by rfl) T.int boot_int (pa_cons (pe_callB call_abs (by rfl) T.abs boot_abs (pa_cons (pv 0) pa_nil)) pa_nil)) pe_int) (pa_cons pe_int pa_nil))))))), fun i hp => ?_⟩
  exact ht_retN (en_lst (Rs := boxR) (ea_cons (toAI (ev_cb (ea_cons (ev_var rfl) ea_nil) vc_abs)) (ea_cons (EvT.intro _ trivial (ev_op (ev_cb (ea_cons (ev_var rfl) ea_nil) vc_abs) (ev_op ev_c ev_c (vo_I ⟨by decide, by decide, by decide⟩)) vo_I0)) (ea_cons (toAI (ev_op (ev_cb (ea_cons (ev_cb (ea_cons (ev_var rfl) ea_nil) vc_abs) ea_nil) vc_int) ev_c (vo_I (by decide)))) (ea_cons (toAI ev_c) ea_nil))))) (k := fun p => ⟨p, _, rfl, rfl, List.mem_cons_self, List.mem_cons_self⟩)
theorem c__law_box (T : Tp K mg) : Kal P w K mg base 1 "_law_box" ["great"] spBox := by
  obtain ⟨⟨fd, F⟩, hm⟩ := T.at_ 50 "_law_box" 74
  exact kal_of F hm (ok__law_box T F) (fun _ _ _ _ _ _ us hl => match us, hl with | [_], _ => rfl)
/-- a draw below m -/
abbrev rDraw (m : Int) : Rp := rEx (fun d : Int => 0 ≤ d ∧ d < m) fun d => rInt d
abbrev spTake : Sp := PrmM (fun (m : Int) p => [rRef p, rInt m]) (fun _ => boxC) (fun _ => []) (fun m => 0 < m ∧ m < 1073741824) (fun _ c => c = boxC) rDraw
theorem ok__law_take (T : Tp K mg) {fd : FuncData} (F : FunD K "_law_take" "_law_take" (defArgs (top 75)) (defBody (top 75)) (defScope (top 75)) [] [] (He.ga K "_law_take") fd) : FnOk P w K mg base CX0 1 (He.ga K "_law_take") fd ["box", "many"] spTake := by
  have sc : FnScope ["box", "many", "digit"] ["box", "many"] (defScope (top 75)) := ⟨rfl, rfl, rfl, by decide +kernel, rfl, by decide +kernel, by decide +kernel⟩
  refine fn_prmM F sc (fun _ _ => rfl) (fun _ => rfl) fun cdv A outer s H E hr => ?_
  refine ⟨_, (pss_cons (ps_if (PW.pt (pw_and (pt_val (pe_ix ix_list (pv 0) pe_int (fun _ _ => rfl))) (pw_and1 (pt_cmpR op_gt (pe_ix ix_list (pv 0) pe_int (fun _ _ => rfl)) pe_int (nomark _))))) (pss_cons (ps_set (i := 2) sc.nd rfl (Or.inl rfl) (pe_op op_mod (pe_callTy call_int1 (by rfl) T.int boot_int (pa_cons (pe_ix ix_list (pv 0) pe_int (fun _ _ => rfl)) pa_nil)) (pv 1)))
      (pss_cons (ps_asg (pe_op op_fdiv (pe_callTy call_int1 (by rfl) T.int boot_int (pa_cons (pe_ix ix_list (pv 0) pe_int (fun _ _ => rfl)) pa_nil)) (pv 1)) (pg_sub (pv 0) pe_int set_list (fun _ => rfl)))
      (pss_one (ps_ret (pv 2))))) pss_nil)
      (pss_cons (ps_asg (pe_op op_add (pe_ix ix_list (pv 0) pe_int (fun _ _ => rfl)) pe_int) (pg_sub (pv 0) pe_int set_list (fun _ => rfl)))
      (pss_cons (ps_asg (pe_op op_mod (pe_op op_add (pe_op op_add (pe_op op_mul (pe_ix ix_list (pv 0) pe_int (fun _ _ => rfl)) pe_int) (pe_op op_mul pe_int (pe_ix ix_list (pv 0) pe_int (fun _ _ => rfl)))) pe_int) pe_int) (pg_sub (pv 0) pe_int set_list (fun _ => rfl)))
      (pss_one (ps_ret (pe_op op_mod (pe_op op_fdiv (pe_ix ix_list (pv 0) pe_int (fun _ _ => rfl)) pe_int) (pv 1))))))), fun m p hp nd => ?_⟩
  obtain ⟨h1, h2⟩ := hp
  have at_ : ∀ {t : Tys} {i : Int} (j : Nat) {R : Rp}, i = (j : Int) → boxR[j]? = some R → t[0]? = some (some (rRef p)) → EvT t [(p, boxC)] (tOp (rIxL K) (tVar 0) (tC (.int i))) R := fun {t i} j {R} e h e0 => ev_op (ev_var e0) ev_c (vo_ixO (j := j) List.mem_cons_self e h)
  have drawn : ∀ {t : Tys} {te tm : TE}, EvT t [(p, boxC)] te rAI → EvT t [(p, boxC)] tm (rInt m) → EvT t [(p, boxC)] (tOp (rI (fun _ j => 0 < j) fun i j => .int (i % j)) te tm) (rDraw m) := fun h hm => ev_op h hm (VO.exL fun z _ => VO.intro (z % m) ⟨Int.emod_nonneg _ (by omega), Int.emod_lt_of_pos _ h1⟩ (vo_I h1))
  refine hs_ifZ (k := 0) (p := p) (bp := fun _ => True) (ebz_and2 (ebz_b (f := fun b => b) (ez_of (at_ 1 rfl rfl rfl))) (ebz_test (P := fun _ : Bool => True) (f := fun b => b) (ez_of (ev_op (at_ 0 rfl rfl rfl) ev_c (VO.exL fun z _ => VO.intro _ trivial vo_I0))))) rfl (by simp) (h1 := fun _ => ?_) (h2 := fun _ => ?_)
  · refine hs_setE (drawn (ev_cb (ea_cons (at_ 0 rfl rfl rfl) ea_nil) (VC.ex fun z hz => vc_int)) (ev_var rfl)) fun d hd => ?_
    refine hs_lset (k := 0) (m := 0) (R := rAI) (ev_op (ev_cb (ea_cons (at_ 0 rfl rfl rfl) ea_nil) (VC.ex (Rr := fun i : Int => rInt i) fun z hz => vc_int)) (ev_var rfl) (VO.exL fun z _ => VO.intro _ trivial (vo_I ⟨h1, h2⟩))) (ev_var rfl) ev_c rfl (.inr (by simp)) rfl (by decide) ?_
    exact ht_ret (EvT.intro d hd (ev_var rfl)) ⟨rfl, boxC, rfl, List.mem_cons_self⟩
  · refine hs_lset (k := 0) (m := 3) (R := rAI) (ev_op (at_ 3 rfl rfl rfl) ev_c (VO.exL fun z _ => VO.intro _ trivial vo_I0)) (ev_var rfl) ev_c rfl (.inr (by simp)) rfl (by decide) ?_
    refine hs_lset (k := 0) (m := 2) (R := rAI) (ev_op (Ra := rAI) (ev_op (Ra := rAI) (ev_op (Ra := rAI) (Rb := rAI) (ev_op (at_ 2 rfl rfl rfl) ev_c (VO.exL fun z _ => VO.intro _ trivial (vo_I (.inr ⟨by decide, by decide⟩)))) (ev_op ev_c (at_ 3 rfl rfl rfl) (VO.exR fun z _ => VO.intro _ trivial (vo_I (.inl ⟨by decide, by decide⟩)))) (VO.exL fun z _ => VO.exR fun y _ => VO.intro _ trivial vo_I0)) ev_c (VO.exL fun z _ => VO.intro _ trivial vo_I0)) ev_c (VO.exL fun z _ => VO.intro _ trivial (vo_I (by decide)))) (ev_var rfl) ev_c rfl (.inr (by simp)) rfl (by decide) ?_
    exact ht_ret (drawn (ev_op (at_ 2 rfl rfl rfl) ev_c (VO.exL fun z _ => VO.intro _ trivial (vo_I ⟨by decide, by decide⟩))) (ev_var rfl)) ⟨rfl, boxC, rfl, List.mem_cons_self⟩
theorem c__law_take (T : Tp K mg) : Kal P w K mg base 1 "_law_take" ["box", "many"] spTake := by
  obtain ⟨⟨fd, F⟩, hm⟩ := T.at_ 51 "_law_take" 75
  exact kal_of F hm (ok__law_take T F) (fun _ _ _ _ _ _ us hl => match us, hl with | [_, _], _ => rfl)
theorem erase_perm {α : Type} : ∀ (l : List α) (j : Nat) (hj : j < l.length), (l[j] :: l.eraseIdx j).Perm l
  | [], j, hj => absurd hj (Nat.not_lt_zero _)
  | x :: l, 0, _ => List.Perm.refl _
  | x :: l, j + 1, hj => by
    have hj2 : j < l.length := by simpa using hj
    have ih := erase_perm l j hj2
    exact (List.Perm.swap x l[j] (l.eraseIdx j)).trans (ih.cons x)
abbrev spMixed : Sp := PrmM (fun (Rs : List Rp) p => [rRef p, rLst Rs]) (fun _ => boxC) (fun _ => []) (fun Rs => Rs.length ≤ 1000) (fun _ c => c = boxC) (fun Rs => rEx (fun ss => ss.Perm Rs) rLst)
theorem ok__law_mixed (T : Tp K mg) {fd : FuncData} (F : FunD K "_law_mixed" "_law_mixed" (defArgs (top 77)) (defBody (top 77)) (defScope (top 77)) [] [] (He.ga K "_law_mixed") fd) : FnOk P w K mg base CX0 2 (He.ga K "_law_mixed") fd ["box", "items"] spMixed := by
  have sc : FnScope ["box", "items", "left", "found", "turn"] ["box", "items"] (defScope (top 77)) := ⟨rfl, rfl, rfl, by decide +kernel, rfl, by decide +kernel, by decide +kernel⟩
  have c__law_take := c__law_take (P := P) (w := w) (base := base) T
  refine fn_prmM F sc (fun _ _ => rfl) (fun _ => rfl) fun cdv A outer s H E hr => ?_
  refine ⟨_, (pss_cons (ps_par (i := 2) (j := 3) (by rfl) sc.nd rfl rfl (by decide) rfl rfl (pa_cons (pe_callTy call_list_of (by rfl) T.list boot_lst (pa_cons (pv 1) pa_nil)) (pa_cons (pe_lst pa_nil) pa_nil)) (by rfl))
      (pss_cons (ps_for PassesOwn.never rfl (pi_range1 (by rfl) T.range (pa_cons (pe_callB call_len_seq (by rfl) T.len PySem.boot_len (pa_cons (pv 1) pa_nil)) pa_nil)) (pg_name (i := 4) sc.nd rfl (Or.inl rfl)) (pss_one (ps_expr (pe_bm PySem.F.plainAttrs_list PySem.F.slot_list_append PySem.F.type_list_append mt_append (pv 3) (pa_cons (pe_bm PySem.F.plainAttrs_list PySem.F.slot_list_pop PySem.F.type_list_pop mt_popAt (pv 2) (pa_cons (pe_k c__law_take hr (by decide) (by rfl) (pa_cons (pv 0) (pa_cons (pe_callB call_len_seq (by rfl) T.len PySem.boot_len (pa_cons (pv 2) pa_nil)) pa_nil))) pa_nil)) pa_nil)))))
      (pss_one (ps_ret (pv 3))))), fun Rs p hp nd => ?_⟩
  have hp : Rs.length ≤ 1000 := hp
  refine hs_parNN (en_listL (ev_var rfl)) (fun q => en_lst ea_nil) (kk := fun q r => ?_)
  let I : Nat → Nxt := fun i t1 O1 W1 => ∃ (lf fd : List Rp) (o : Option Rp), (fd ++ lf).Perm Rs ∧ fd.length = i ∧ t1 = [some (rRef p), some (rLst Rs), some (rRef q), some (rRef r), o] ∧ O1 = [(r, .lst fd), (q, .lst lf), (p, boxC)] ∧ W1 = [r, q]
  refine hs_for (src_range1 (ea_cons (ev_cb (ea_cons (ev_var rfl) ea_nil) vc_lenL) ea_nil)) I ⟨Rs, [], _, List.Perm.refl _, rfl, rfl, rfl, rfl⟩ ?_ ?_
  · rintro i R t1 O1 W1 hR ⟨lf, fd, o, pm, hl, rfl, rfl, rfl⟩
    have hi : i < Rs.length := by
      have := (List.getElem?_eq_some_iff.mp hR).1
      simpa using this
    have hlen : fd.length + lf.length = Rs.length := by rw [← List.length_append]; exact pm.length_eq
    refine ⟨_, _, tg_name, ?_⟩
    refine ht_appPop (p := r) (q := q) (z := p) (cz := boxC) (k := 0) (j := 1) (kz := 2) (m := lf.length) (ev_var rfl) (ev_var rfl) (ez_callM (lf.length : Int) (eaz_of (ea_cons (ev_var rfl) (ea_cons (ev_cb (ea_cons (ev_var rfl) ea_nil) (vc_lenO (by simp))) ea_nil))) rfl ⟨by omega, by omega⟩ (fun _ h => h) (by simp) (by simp) (by simp)) rfl rfl rfl rfl (by simp) (by simp) (by simp) (by decide) (lineBig (by omega)) rfl (by omega) fun j hj => ?_
    refine ⟨lf.eraseIdx j, fd ++ [lf[j]], _, ?_, by rw [List.length_append, hl]; rfl, rfl, rfl, rfl⟩
    refine List.Perm.trans ?_ pm
    rw [List.append_assoc]
    refine List.Perm.append_left fd ?_
    exact (erase_perm lf j hj)
  · rintro t1 O1 W1 ⟨lf, fd, o, pm, hl, rfl, rfl, rfl⟩
    have hlen : fd.length + lf.length = Rs.length := by rw [← List.length_append]; exact pm.length_eq
    have e : lf = [] := List.eq_nil_of_length_eq_zero (by
      have : ((List.range ((Rs.length : Int)).toNat).map fun (i : Nat) => rInt (0 + (i : Int))).length = Rs.length := by simp
      omega)
    subst e
    rw [List.append_nil] at pm
    refine HT.freezeY (p := r) (i := 3) (k := 0) (c := .lst fd) (rLst fd) rfl rfl (by simp) (fun o F' hF hok => oc_lst r o F' hF hok) ?_
    exact ht_ret (EvT.intro fd pm (ev_var rfl)) ⟨rfl, boxC, rfl, by simp⟩
theorem c__law_mixed (T : Tp K mg) : Kal P w K mg base 2 "_law_mixed" ["box", "items"] spMixed := by
  obtain ⟨⟨fd, F⟩, hm⟩ := T.at_ 53 "_law_mixed" 77
  exact kal_of F hm (ok__law_mixed T F) (fun _ _ _ _ _ _ us hl => match us, hl with | [_, _], _ => rfl)
theorem VC.exB {O : Os} {β : Type} {P : β → Prop} {R0 : Rp} {Ra Rr : β → Rp} {r : List L2.V → Hp → VK → Prop} (h : ∀ b, P b → VC O r [R0, Ra b] (Rr b)) : VC O r [R0, rEx P Ra] (rEx P Rr) := fun G H vs hx o sb Q q => by
  match vs, hx with
  | [u, v], hx =>
    obtain ⟨hu, ⟨b, hb, hv⟩, _⟩ := hx
    exact h b hb G H [u, v] ⟨hu, hv, trivial⟩ o sb Q fun w G' H' st hw => q w G' H' st ⟨b, hb, hw⟩
section
variable {t : Tys} {O : Os} {ta tm th : TE} {p : Addr} {E : XK}
theorem ez_take {m : Int} (ha : EvT t O ta (rRef p)) (hm : EvT t O tm (rInt m)) (h1 : 0 < m) (h2 : m < 1073741824) : EvZ p boxC t O (tCall spTake [] E (tCons ta (tCons tm tNil))) (rDraw m) :=
  ez_callM m (eaz_of (ea_cons ha (ea_cons hm ea_nil))) rfl ⟨h1, h2⟩ (fun _ h => h) (by simp) (by simp) (by simp)
theorem ez_mixed {Rs : List Rp} (ha : EvT t O ta (rRef p)) (hm : EvT t O tm (rLst Rs)) (hl : Rs.length ≤ 1000) : EvZ p boxC t O (tCall spMixed [] E (tCons ta (tCons tm tNil))) (rEx (fun ss => ss.Perm Rs) rLst) :=
  ez_callM Rs (eaz_of (ea_cons ha (ea_cons hm ea_nil))) rfl hl (fun _ h => h) (by simp) (by simp) (by simp)
/-- some of a list, rising -/
def Some2 (ns : List Int) (j : Nat) (l : List Int) : Prop := ∃ m : List Int, m.Perm ns ∧ Rise (m.take j) l
theorem ez_some {ns : List Int} {n : Int} {j : Nat} (ha : EvT t O ta (rRef p)) (hm : EvT t O tm (rLI ns)) (hl : ns.length ≤ 1000) (hn : EvT t O th (rInt n)) (e : n = (j : Int)) :
    EvZ p boxC t O (tCB (rSortedI K) (tCons (tSl (rSlL K) (tCall spMixed [] E (tCons ta (tCons tm tNil))) tNoPart (tPart th)) tNil)) (rEx (Some2 ns j) rLI) := by
  have h1 := ez_toL (K := K) (Rs := []) (ez_mixed (E := E) ha hm (by rw [List.length_map]; exact hl)) hn e
  have h2 : EvZ p boxC t O (tSl (rSlL K) (tCall spMixed [] E (tCons ta (tCons tm tNil))) tNoPart (tPart th)) (rEx (fun m : List Int => m.Perm ns) fun m => rLI (m.take j)) := h1.sub fun v G ⟨ss, hp, hv⟩ => by
    obtain ⟨m, h3, rfl⟩ := perm_map_inv hp ns rfl
    have hv : (rLst ((m.map fun n => rIs (.int n)).take j)).p v G := hv
    rw [← List.map_take] at hv
    exact ⟨m, h3, hv⟩
  exact (ez_cb (eaz_cons h2 (eaz_of ea_nil)) (VC.ex fun _ _ => vc_sortedI)).sub fun v G ⟨m, hp, l, hl, hv⟩ => ⟨l, ⟨m, hp, hl⟩, hv⟩
/-- two of a list -/
def Two (ns : List Int) (z : Int × Int) : Prop := z.1 ∈ ns ∧ z.2 ∈ ns
theorem ez_two {ns : List Int} (ha : EvT t O ta (rRef p)) (hm : EvT t O tm (rLI ns)) (hl : ns.length ≤ 1000) (h2 : 2 ≤ ns.length) :
    EvZ p boxC t O (tSl (rSlL K) (tCall spMixed [] E (tCons ta (tCons tm tNil))) tNoPart (tPart (tC (.int 2)))) (rEx (Two ns) fun z => rLst [rInt z.1, rInt z.2]) := by
  have h1 := ez_toL (K := K) (Rs := []) (j := 2) (ez_mixed (E := E) ha hm (by rw [List.length_map]; exact hl)) ev_c rfl
  exact h1.sub fun v G ⟨ss, hp, hv⟩ => by
    obtain ⟨m, h3, rfl⟩ := perm_map_inv hp ns rfl
    have hlen := h3.length_eq
    match m, hlen, h3, hv with
    | a :: b :: r, _, h3, hv => exact ⟨(a, b), ⟨h3.mem_iff.mp (by simp), h3.mem_iff.mp (by simp)⟩, hv⟩
    | [a], hlen, _, _ => simp at hlen; omega
    | [], hlen, _, _ => simp at hlen; omega
end
theorem some2_ok {ns l : List Int} {j : Nat} (h : Some2 ns j l) (nd : ns.Nodup) (hj : j ≤ ns.length) : l.Pairwise (· < ·) ∧ (∀ k ∈ l, k ∈ ns) ∧ l.length = j := by
  obtain ⟨m, hp, h1, h2⟩ := h
  have ndm : (m.take j).Nodup := (hp.nodup_iff.mpr nd).sublist (List.take_sublist _ _)
  have ndl : l.Nodup := h1.nodup_iff.mpr ndm
  refine ⟨?_, fun k hk => hp.mem_iff.mp ((List.take_sublist _ _).subset (h1.mem_iff.mp hk)), ?_⟩
  · exact List.Pairwise.imp₂ (fun a b h1 h2 => by
      have h1 : a ≤ b := h1
      have h2 : a ≠ b := h2
      show a < b
      omega) h2 ndl
  · rw [h1.length_eq, List.length_take, hp.length_eq]; omega
theorem range_get {n i : Nat} {f : Nat → Rp} {R : Rp} (h : ((List.range n).map f)[i]? = some R) : i < n ∧ R = f i := by
  have hi : i < n := by
    have := (List.getElem?_eq_some_iff.mp h).1
    simpa using this
  rw [List.getElem?_map, List.getElem?_range hi] at h
  exact ⟨hi, (Option.some.inj h).symm⟩
theorem map_get {α : Type} {l : List α} {i : Nat} {f : α → Rp} {R : Rp} (h : (l.map f)[i]? = some R) : ∃ s, l[i]? = some s ∧ R = f s := by
  rw [List.getElem?_map] at h
  cases hs : l[i]? with
  | none => rw [hs] at h; cases h
  | some s => rw [hs] at h; exact ⟨s, rfl, (Option.some.inj h).symm⟩
theorem EbZ.imp {t : Tys} {O : Os} {tt : TT} {p : Addr} {c : OC} {b1 b2 : Bool → Prop} (h : EbZ p c t O tt b1) (k : ∀ x, b1 x → b2 x) : EbZ p c t O tt b2 := fun hb s G H T o sb hg Q q => h hb s G H T o sb hg Q fun x G' H' hx st o' => q x G' H' (k x hx) st o'
theorem ev_lcL0 {t : Tys} {O L : Os} {wi : TI} {g : TG} {te : TE} {vs : List Nat} {α : Type} {xs : List α} {f r : α → Rp} (hl : SrcW L t O wi (xs.map f)) (hL : ∀ e ∈ L, e ∈ O) (hz : xs.length ≤ sizeLine)
    (hs : ∀ x, x ∈ xs → ∃ t2 us, TgT g (f x) (wt t vs) t2 us ∧ (∀ u ∈ us, u ∈ vs) ∧ EvT t2 O te (r x)) : EvT t O (tLc wi g tYes te vs) (rLst (xs.map r)) := by
  have h := en_lcL (c := fun _ => true) (tt := tYes) (te := te) (r := r) hl hL hz fun x hx => by
    obtain ⟨t2, us, h1, h2, h3⟩ := hs x hx
    exact ⟨t2, us, h1, h2, eb_yes, fun _ => h3⟩
  rw [List.filter_eq_self.mpr fun _ _ => rfl] at h
  exact ev_new h oc_lst
end
end K96
set_option Elab.async false
set_option linter.all false
set_option maxRecDepth 100000
set_option maxHeartbeats 4000000
/-! the law's own network; all its sides. Own work. -/
namespace K96
open PySem PySem.Spec L2 Rz Cut
section
variable {P : Program} {w : World} {K : PySem.W.Frag} {mg : Str → Option Value} {base : Heap}
/-- the law's network: directed, nodes, terminals, edges -/
structure Lw where
  dir : Bool
  ns : List Int
  ts : List Int
  ed : PM
def Lw.es (x : Lw) : Edges := x.ed.map fun e => (e.1.1, e.1.2, e.2)
def Lw.nw (x : Lw) : Nw := ⟨x.ns, x.es, x.ts, x.dir⟩
abbrev rLn (x : Lw) (p : Addr) : Rp := rLst [rBl x.dir, rLI x.ns, rLI x.ts, rRef p]
abbrev oLn (x : Lw) (p : Addr) : Os := [(p, .dT (mP fI x.ed))]
def LwOk (x : Lw) : Prop := NwOk x.nw ∧ (x.ns.filter fun y => !decide (y ∈ x.ts)).length ≤ 4
section
variable {t : Tys} {O : Os} {te : TE} {x : Lw} {p : Addr}
theorem n_dir (h : EvT t O te (rLn x p)) : EvT t O (tOp (rIxL K) te (tC (.int 0))) (rBl x.dir) := ev_op h ev_c (vo_ixL (j := 0) rfl rfl)
theorem n_ns (h : EvT t O te (rLn x p)) : EvT t O (tOp (rIxL K) te (tC (.int 1))) (rLI x.ns) := ev_op h ev_c (vo_ixL (j := 1) rfl rfl)
theorem n_ts (h : EvT t O te (rLn x p)) : EvT t O (tOp (rIxL K) te (tC (.int 2))) (rLI x.ts) := ev_op h ev_c (vo_ixL (j := 2) rfl rfl)
theorem n_ed (h : EvT t O te (rLn x p)) : EvT t O (tOp (rIxL K) te (tC (.int 3))) (rRef p) := ev_op h ev_c (vo_ixL (j := 3) rfl rfl)
end
abbrev spLCap : Sp := Prm (fun y : (Lw × Addr) × Bool × List Int => [rLn y.1.1 y.1.2, rSI y.2.1 y.2.2]) (fun y => oLn y.1.1 y.1.2) (fun y => LwOk y.1.1) (fun y => rInt (cutp y.1.1.dir y.1.1.es (inB y.2.2)))
theorem es_take (x : Lw) (i : Nat) : x.es.take i = (x.ed.take i).map fun e => (e.1.1, e.1.2, e.2) := by unfold Lw.es; rw [List.map_take]
theorem cutp_snoc {dir : Bool} {el : Edges} {e : Int × Int × Int} {p : Int → Bool} : cutp dir (el ++ [e]) p = cutp dir el p + (if Cut.leaves dir p e = true then e.2.2 else 0) := by
  unfold cutp
  rw [List.map_append, List.sum_append]; simp
theorem ed_nd {x : Lw} (h : LwOk x) : (x.ed.map (·.1)).Nodup := by
  have h1 := h.1.edges.nd
  have e : (x.nw.es.map fun e => (e.1, e.2.1)) = x.ed.map (·.1) := by
    show (x.es.map _) = _
    unfold Lw.es
    rw [List.map_map]; rfl
  rw [e] at h1; exact h1
theorem ok__law_capacity (T : Tp K mg) {fd : FuncData} (F : FunD K "_law_capacity" "_law_capacity" (defArgs (top 79)) (defBody (top 79)) (defScope (top 79)) [] [] (He.ga K "_law_capacity") fd) : FnOk P w K mg base CX0 1 (He.ga K "_law_capacity") fd ["net", "side"] spLCap := by
  have sc : FnScope ["net", "side", "total", "u", "v"] ["net", "side"] (defScope (top 79)) := ⟨rfl, rfl, rfl, by decide +kernel, rfl, by decide +kernel, by decide +kernel⟩
  refine fn_prm F sc (fun _ => rfl) (fun _ => by first | exact List.nodup_nil | exact nd_fl | simp) fun cdv A outer s H E hr => ?_
  have hu := hu_of hr
  refine ⟨_, (pss_cons (ps_set (i := 2) sc.nd rfl (Or.inl rfl) pe_int)
      (pss_cons (ps_lock (ps_for PassesOwn.never rfl (pi_keys (pe_ix ix_list (pv 0) pe_int (fun _ _ => rfl))) (pg_tup (n := 2) (by rfl) (pgs_cons (pg_name (i := 3) sc.nd rfl (Or.inl rfl)) (pgs_cons (pg_name (i := 4) sc.nd rfl (Or.inl rfl)) pgs_nil))) (pss_one (ps_if (PW.pt (pw_or (PW.pt (pw_and (pt_cmpR op_in_seq (pv 3) (pv 1) rfl) (pw_and1 (pt_cmpR op_notIn_seq (pv 4) (pv 1) rfl)))) (pw_or1 (PW.pt (pw_and (pt_not (pt_val (pe_ix ix_list (pv 0) pe_int (fun _ _ => rfl)))) (pw_and (pt_cmpR op_in_seq (pv 4) (pv 1) rfl) (pw_and1 (pt_cmpR op_notIn_seq (pv 3) (pv 1) rfl)))))))) (pss_one (ps_set (i := 2) sc.nd rfl (Or.inl rfl) (pe_op op_add (pv 2) (pe_dget hu (pe_ix ix_list (pv 0) pe_int (fun _ _ => rfl)) (pe_tup (pa_cons (pv 3) (pa_cons (pv 4) pa_nil))) (fun _ _ => rfl))))) pss_nil))))
      (pss_one (ps_ret (pv 2))))), fun y hp => ?_⟩
  obtain ⟨⟨x, p⟩, b, S⟩ := y
  have hp : LwOk x := hp
  have nd := ed_nd hp
  refine hs_set ev_c ?_
  let I : Obj → List (List Key × L2.V) → Nat → Nxt := fun od l i t1 O1 W1 => ∃ (o1 o2 : Option Rp), t1 = [some (rLn x p), some (rSI b S), some (rInt (cutp x.dir (x.es.take i) (inB S))), o1, o2] ∧ O1 = [(p, .lkT od l (mP fI x.ed))] ∧ W1 = []
  refine ht_seq (Nx := fun t1 O1 W1 => ∃ (o1 o2 : Option Rp), t1 = [some (rLn x p), some (rSI b S), some (rInt (cutp x.dir x.es (inB S))), o1, o2] ∧ O1 = oLn x p ∧ W1 = []) (ht_lockT (k := 0) rfl (by simp) (by simp) fun od l => ?_) ?_
  · refine ht_forL (src_keysT (r := mP fI x.ed) (p := p) (od := od) (l := l) (n_ed (ev_var rfl)) List.mem_cons_self) (I od l) (fun i t1 O1 W1 h e he => ?_) ⟨_, _, rfl, rfl, rfl⟩ ?_ ?_
    · obtain ⟨_, _, _, rfl, _⟩ := h
      exact he
    · rintro i R t1 O1 W1 hR ⟨o1, o2, rfl, rfl, rfl⟩
      rw [List.getElem?_map] at hR
      unfold mP at hR
      rw [List.getElem?_map] at hR
      cases he : x.ed[i]? with
      | none => rw [he] at hR; cases hR
      | some e =>
        rw [he] at hR
        cases hR
        have he2 : x.es[i]? = some (e.1.1, e.1.2, e.2) := by unfold Lw.es; rw [List.getElem?_map, he]; rfl
        have hl : lk (mP fI x.ed) (kP (e.1.1, e.1.2)) = some (rInt e.2) := by
          rw [lk_mP, lk_of_mem nd (List.mem_of_getElem? he)]; rfl
        refine ⟨_, _, tg_two (Ra := rInt e.1.1) (Rb := rInt e.1.2), ?_⟩
        refine ht_if (c := Cut.leaves x.dir (inB S) (e.1.1, e.1.2, e.2)) (eb_or (eb_and (eb_test (ev_op (ev_var rfl) (ev_var rfl) vo_isS)) fun _ => eb_test (ev_op (ev_var rfl) (ev_var rfl) vo_niS)) fun _ => eb_and (eb_not (eb_b (n_dir (ev_var rfl)))) fun _ => eb_and (eb_test (ev_op (ev_var rfl) (ev_var rfl) vo_isS)) fun _ => eb_test (ev_op (ev_var rfl) (ev_var rfl) vo_niS)) (fun ht => ?_) fun hf => ?_
        · refine ht_set (i := 2) (R := rInt (cutp x.dir (x.es.take i) (inB S) + e.2)) (ev_op (ev_var rfl) (ev_dgetT (k := kP (e.1.1, e.1.2)) (R := rInt e.2) (n_ed (ev_var rfl)) (.inr ⟨p, rfl, .inr ⟨od, l, List.mem_cons_self⟩⟩) (ev_kP (ev_var rfl) (ev_var rfl)) hl) vo_I0) ⟨some (rInt e.1.1), some (rInt e.1.2), ?_, rfl, rfl⟩
          rw [snoc_take he2, cutp_snoc, if_pos ht]; rfl
        · refine ht_next ⟨some (rInt e.1.1), some (rInt e.1.2), ?_, rfl, rfl⟩
          rw [snoc_take he2, cutp_snoc, if_neg (by rw [hf]; simp), Int.add_zero]; rfl
    · rintro t1 O1 W1 ⟨o1, o2, rfl, rfl, rfl⟩
      have e1 : ((mP fI x.ed).map fun e => rKT e.1).length = x.es.length := by unfold mP Lw.es; simp
      rw [e1, List.take_length]
      exact ⟨rfl, o1, o2, rfl, rfl, rfl⟩
  · rintro t1 O1 W1 ⟨o1, o2, rfl, rfl, rfl⟩
    exact ht_ret (ev_var rfl) rfl
theorem c__law_capacity (T : Tp K mg) : Kal P w K mg base 1 "_law_capacity" ["net", "side"] spLCap := by
  obtain ⟨⟨fd, F⟩, hm⟩ := T.at_ 55 "_law_capacity" 79
  exact kal_of F hm (ok__law_capacity T F) (fun _ _ _ _ _ _ us hl => match us, hl with | [_, _], _ => rfl)
def grow1 (ts : List Int) (fs : List (List Int)) (n : Int) : List (List Int) := if n ∈ ts then fs else fs ++ fs.map (· ++ [n])
def foundOf (x : Lw) (s : List Int) : List (List Int) := x.ns.foldl (grow1 x.ts) [s]
noncomputable def sidesOf (x : Lw) (s : List Int) : List (List Int) := (foundOf x s).map riseOf
theorem found_len {ts : List Int} : ∀ (ns : List Int) (fs : List (List Int)), (ns.foldl (grow1 ts) fs).length = fs.length * 2 ^ (ns.filter fun y => !decide (y ∈ ts)).length
  | [], fs => by simp
  | n :: ns, fs => by
    show (ns.foldl (grow1 ts) (grow1 ts fs n)).length = _
    rw [found_len ns]
    unfold grow1
    by_cases h : n ∈ ts
    · rw [if_pos h, List.filter_cons_of_neg (by simp [h])]
    · rw [if_neg h, List.filter_cons_of_pos (by simp [h]), List.length_append, List.length_map, List.length_cons, Nat.pow_succ]
      rw [← Nat.two_mul, Nat.mul_comm 2, Nat.mul_assoc, Nat.mul_comm 2]
theorem found_each {ts : List Int} {m : Nat} : ∀ (ns : List Int) (fs : List (List Int)), (∀ l ∈ fs, l.length ≤ m) → ∀ l ∈ ns.foldl (grow1 ts) fs, l.length ≤ m + ns.length
  | [], fs, h => h
  | n :: ns, fs, h => by
    intro l hl
    have := found_each (m := m + 1) ns (grow1 ts fs n) (fun l hl => by
      unfold grow1 at hl
      split at hl
      · exact Nat.le_succ_of_le (h l hl)
      · rcases List.mem_append.mp hl with hl | hl
        · exact Nat.le_succ_of_le (h l hl)
        · obtain ⟨l', h1, rfl⟩ := List.mem_map.mp hl
          rw [List.length_append]
          have := h l' h1
          simp; omega) l hl
    rw [List.length_cons]; omega
structure Grown (ts s done : List Int) (fs : List (List Int)) : Prop where
  nd : ∀ l ∈ fs, l.Nodup
  low : ∀ l ∈ fs, ∀ y ∈ s, y ∈ l
  up : ∀ l ∈ fs, ∀ y ∈ l, y ∈ s ∨ (y ∈ done ∧ y ∉ ts)
  all : ∀ p : Int → Bool, ∃ l ∈ fs, ∀ y, y ∈ l ↔ y ∈ s ∨ (y ∈ done ∧ y ∉ ts ∧ p y = true)
theorem grown_step {ts s done : List Int} {fs : List (List Int)} {n : Int} (g : Grown ts s done fs) (hs : ∀ y ∈ s, y ∈ ts) (hn : n ∉ done) : Grown ts s (done ++ [n]) (grow1 ts fs n) := by
  unfold grow1
  have inc : ∀ {y : Int}, y ∈ done → y ∈ done ++ [n] := fun h => List.mem_append.mpr (.inl h)
  by_cases h : n ∈ ts
  · rw [if_pos h]
    refine ⟨g.nd, g.low, fun l hl y hy => (g.up l hl y hy).imp id fun z => ⟨inc z.1, z.2⟩, fun p => ?_⟩
    obtain ⟨l, hl, e⟩ := g.all p
    refine ⟨l, hl, fun y => (e y).trans ⟨Or.imp id fun z => ⟨inc z.1, z.2⟩, Or.imp id fun z => ⟨?_, z.2⟩⟩⟩
    rcases List.mem_append.mp z.1 with h1 | h1
    · exact h1
    · exact absurd (List.mem_singleton.mp h1 ▸ h) z.2.1
  · rw [if_neg h]
    have out : ∀ l ∈ fs, n ∉ l := fun l hl hy => by
      rcases g.up l hl n hy with z | z
      · exact h (hs n z)
      · exact hn z.1
    refine ⟨fun l hl => ?_, fun l hl y hy => ?_, fun l hl y hy => ?_, fun p => ?_⟩
    · rcases List.mem_append.mp hl with hl | hl
      · exact g.nd l hl
      · obtain ⟨k, hk, rfl⟩ := List.mem_map.mp hl
        refine List.nodup_append.mpr ⟨g.nd k hk, List.nodup_cons.mpr ⟨by simp, List.nodup_nil⟩, fun a ha b hb e => ?_⟩
        rw [List.mem_singleton.mp hb] at e
        exact out k hk (e ▸ ha)
    · rcases List.mem_append.mp hl with hl | hl
      · exact g.low l hl y hy
      · obtain ⟨k, hk, rfl⟩ := List.mem_map.mp hl
        exact List.mem_append.mpr (.inl (g.low k hk y hy))
    · rcases List.mem_append.mp hl with hl | hl
      · exact (g.up l hl y hy).imp id fun z => ⟨inc z.1, z.2⟩
      · obtain ⟨k, hk, rfl⟩ := List.mem_map.mp hl
        rcases List.mem_append.mp hy with hy | hy
        · exact (g.up k hk y hy).imp id fun z => ⟨inc z.1, z.2⟩
        · rw [List.mem_singleton.mp hy]
          exact .inr ⟨List.mem_append.mpr (.inr (List.mem_singleton.mpr rfl)), h⟩
    · obtain ⟨l, hl, e⟩ := g.all p
      cases hp : p n with
      | false =>
        refine ⟨l, List.mem_append.mpr (.inl hl), fun y => (e y).trans ⟨Or.imp id fun z => ⟨inc z.1, z.2⟩, Or.imp id fun z => ⟨?_, z.2⟩⟩⟩
        rcases List.mem_append.mp z.1 with h1 | h1
        · exact h1
        · rw [List.mem_singleton.mp h1, hp] at z
          exact absurd z.2.2 (by simp)
      | true =>
        refine ⟨l ++ [n], List.mem_append.mpr (.inr (List.mem_map.mpr ⟨l, hl, rfl⟩)), fun y => ⟨fun hy => ?_, fun hy => ?_⟩⟩
        · rcases List.mem_append.mp hy with hy | hy
          · exact ((e y).mp hy).imp id fun z => ⟨inc z.1, z.2⟩
          · rw [List.mem_singleton.mp hy]
            exact .inr ⟨List.mem_append.mpr (.inr (List.mem_singleton.mpr rfl)), h, hp⟩
        · rcases hy with hy | ⟨h1, h2, h3⟩
          · exact List.mem_append.mpr (.inl ((e y).mpr (.inl hy)))
          · rcases List.mem_append.mp h1 with h1 | h1
            · exact List.mem_append.mpr (.inl ((e y).mpr (.inr ⟨h1, h2, h3⟩)))
            · exact List.mem_append.mpr (.inr h1)
theorem grown_all {ts s : List Int} (hs : ∀ y ∈ s, y ∈ ts) : ∀ (ns done : List Int) (fs : List (List Int)), (done ++ ns).Nodup → Grown ts s done fs → Grown ts s (done ++ ns) (ns.foldl (grow1 ts) fs)
  | [], done, fs, _, g => by rw [List.append_nil]; exact g
  | n :: ns, done, fs, nd, g => by
    have h1 : n ∉ done := fun h => by
      have := (List.nodup_append.mp nd).2.2 n h n List.mem_cons_self
      exact this rfl
    have := grown_all hs ns (done ++ [n]) (grow1 ts fs n) (by simpa using nd) (grown_step g hs h1)
    simpa using this
theorem agree_parts {x : Nw} (ok : NwOk x) {s : List Int} {p : Int → Bool} : Parts x.ns s (less x.ts s) p ↔ (∀ y ∈ s, y ∈ x.ns → p y = true) ∧ ∀ t ∈ x.ts, t ∉ s → p t = false :=
  ⟨fun h => ⟨fun y hy hv => h.1 y hv hy, fun t ht hs => h.2 t (ok.sub t ht) (less_mem.mpr ⟨ht, hs⟩)⟩, fun h => ⟨fun y hv hy => h.1 y hy hv, fun y hv hy => h.2 y (less_mem.mp hy).1 (less_mem.mp hy).2⟩⟩
theorem parts_agree {x : Nw} (ok : NwOk x) {s : List Int} (hs : ∀ y ∈ s, y ∈ x.ts) {p : Int → Bool} : Parts x.ns s (less x.ts s) p ↔ Agree x.ts s p := by
  rw [agree_parts ok]
  refine ⟨fun h t ht => ?_, fun h => ⟨fun y hy _ => ?_, fun t ht hn => ?_⟩⟩
  · by_cases m : t ∈ s
    · rw [h.1 t m (ok.sub t ht), decide_eq_true m]
    · rw [h.2 t ht m, decide_eq_false m]
  · rw [h y (hs y hy), decide_eq_true hy]
  · rw [h t ht, decide_eq_false hn]
theorem rise_of {ns l : List Int} (hn : ns.Pairwise (· < ·)) (nd : l.Nodup) (sub : ∀ y ∈ l, y ∈ ns) : riseOf l = ns.filter fun y => decide (y ∈ l) := by
  refine riseOf_eq ⟨(List.perm_ext_iff_of_nodup ((rising_nd hn).filter _) nd).mpr fun k => ?_, (hn.filter _).imp Int.le_of_lt⟩
  rw [List.mem_filter]
  exact ⟨fun h => of_decide_eq_true h.2, fun h => ⟨sub k h, decide_eq_true h⟩⟩
theorem sides_mem {x : Lw} (ok : LwOk x) {s : List Int} (hs : ∀ y ∈ s, y ∈ x.ts) (nd : s.Nodup) {a : List Int} : a ∈ sidesOf x s ↔ ∃ p, Agree x.ts s p ∧ a = x.ns.filter p := by
  have hn : x.ns.Pairwise (· < ·) := ok.1.nodes.2.1
  have hts : ∀ y ∈ x.ts, y ∈ x.ns := ok.1.sub
  have g : Grown x.ts s ([] ++ x.ns) (foundOf x s) := grown_all hs x.ns [] [s] (by simpa using rising_nd hn)
    ⟨fun l hl => by rw [List.mem_singleton.mp hl]; exact nd, fun l hl y hy => by rw [List.mem_singleton.mp hl]; exact hy, fun l hl y hy => .inl (by rw [List.mem_singleton.mp hl] at hy; exact hy),
      fun p => ⟨s, List.mem_singleton.mpr rfl, fun y => ⟨.inl, fun h => h.elim id fun z => absurd z.1 (by simp)⟩⟩⟩
  rw [List.nil_append] at g
  have hsub : ∀ l ∈ foundOf x s, ∀ y ∈ l, y ∈ x.ns := fun l hl y hy => (g.up l hl y hy).elim (fun h => hts y (hs y h)) fun z => z.1
  unfold sidesOf
  rw [List.mem_map]
  constructor
  · rintro ⟨l, hl, rfl⟩
    refine ⟨fun y => decide (y ∈ l), fun t ht => ?_, rise_of hn (g.nd l hl) (hsub l hl)⟩
    refine decide_eq_decide.mpr ⟨fun h => ?_, g.low l hl t⟩
    exact (g.up l hl t h).elim id fun z => absurd ht z.2
  · rintro ⟨p, hp, rfl⟩
    obtain ⟨l, hl, e⟩ := g.all p
    refine ⟨l, hl, ?_⟩
    rw [rise_of hn (g.nd l hl) (hsub l hl)]
    refine List.filter_congr fun y hy => ?_
    by_cases m : y ∈ x.ts
    · rw [hp y m]
      exact decide_eq_decide.mpr ⟨fun h => ((e y).mp h).elim id fun z => absurd m z.2.1, fun h => (e y).mpr (.inl h)⟩
    · cases h : p y with
      | true => exact decide_eq_true ((e y).mpr (.inr ⟨hy, m, h⟩))
      | false =>
        refine decide_eq_false fun z => ?_
        rcases (e y).mp z with z | z
        · exact m (hs y z)
        · rw [h] at z; exact absurd z.2.2 (by simp)
theorem filter_self {ns : List Int} {p : Int → Bool} : ns.filter (inB (ns.filter p)) = ns.filter p := List.filter_congr fun y hy => inB_filter hy
theorem agree_in {x : Nw} (ok : NwOk x) {s : List Int} {p : Int → Bool} (h : Agree x.ts s p) : Agree x.ts s (inB (x.ns.filter p)) := fun t ht => (inB_filter (ok.sub t ht)).trans (h t ht)
theorem sides_len {x : Lw} (ok : LwOk x) (s : List Int) : (sidesOf x s).length ≤ 16 := by
  unfold sidesOf foundOf
  rw [List.length_map, found_len]
  have h2 : 2 ^ (x.ns.filter fun y => !decide (y ∈ x.ts)).length ≤ 2 ^ 4 := Nat.pow_le_pow_right (by decide) ok.2
  simp only [List.length_cons, List.length_nil]; omega
theorem sides_some {x : Lw} (ok : LwOk x) (s : List Int) : 0 < (sidesOf x s).length := by
  unfold sidesOf foundOf
  rw [List.length_map, found_len]
  have : 0 < 2 ^ (x.ns.filter fun y => !decide (y ∈ x.ts)).length := Nat.pow_pos (by decide)
  simp only [List.length_cons, List.length_nil]; omega
theorem part_len {x : Lw} (ok : LwOk x) {s : List Int} (hp : PartOk x.ts s) : s.length ≤ 60 := by
  have h1 := hp.high
  have h2 : x.ts.length ≤ 9 := ok.1.many.2
  omega
end
end K96
set_option Elab.async false
set_option linter.all false
set_option maxRecDepth 100000
set_option maxHeartbeats 4000000
/-! law k96: a cell; sides, the least cut by trying all, all sets. Own work. -/
namespace K96
open PySem PySem.Spec L2 Rz Cut
section
variable {P : Program} {w : World} {K : PySem.W.Frag} {mg : Str → Option Value} {base : Heap}
abbrev spCell (K : PySem.W.Frag) : Sp := Prm (fun x : List Int × Int => [rScr K x.1, rInt x.2]) (fun _ => []) (fun x => 0 ≤ x.2) (fun _ => rAI)
theorem ok__law_cell (T : Tp K mg) {fd : FuncData} (F : FunD K "_law_cell" "_law_cell" (defArgs (top 73)) (defBody (top 73)) (defScope (top 73)) [] [] (He.ga K "_law_cell") fd) : FnOk P w K mg base CX0 1 (He.ga K "_law_cell") fd ["script", "k"] (spCell K) := by
  have sc : FnScope ["script", "k"] ["script", "k"] (defScope (top 73)) := ⟨rfl, rfl, rfl, by decide +kernel, rfl, by decide +kernel, by decide +kernel⟩
  refine fn_prm F sc (fun _ => rfl) (fun _ => by first | exact List.nodup_nil | exact nd_fl | simp) fun cdv A outer s H E hr => ?_
  refine ⟨_, (pss_one (ps_ret (pe_ifExp (pt_cmpR op_lt (pv 1) (pe_callB call_len_seq (by rfl) T.len PySem.boot_len (pa_cons (pv 0) pa_nil)) (nomark _)) (pe_ix ix_list (pv 0) (pv 1) (fun _ _ => rfl)) (pe_op op_add (pe_op op_mul pe_int (pv 1)) (pe_op op_mod (pe_callB (cr_sum rfl) (by rfl) T.sum boot_sum (pa_cons (pe_slice sl_list (pv 0) po_none (po_some pe_int)) pa_nil)) pe_int))))), fun y hp => ?_⟩
  obtain ⟨sc, k⟩ := y
  have h1 : 0 ≤ k := hp
  refine ht_ret (ev_if (eb_test (ev_op (ev_var rfl) (ev_cb (ea_cons (ev_var rfl) ea_nil) vc_lenScr) vo_I0)) (fun hc => ?_) fun hc => ?_) rfl
  · have hc : k < (sc.length : Int) := of_decide_eq_true hc
    have hlt : k.toNat < sc.length := by omega
    exact toAI (ev_op (ev_var rfl) (ev_var rfl) (vo_ixScr (j := k.toNat) (n := sc[k.toNat]) (by omega) (List.getElem?_eq_getElem hlt)))
  · exact toAI (ev_op (ev_op ev_c (ev_var rfl) (vo_I (.inl ⟨by decide, by decide⟩))) (ev_op (ev_cb (ea_cons (ev_toScr (j := 1) (ev_var rfl) ev_c rfl) ea_nil) vc_sum) ev_c (vo_I (by decide))) vo_I0)
theorem c__law_cell (T : Tp K mg) : Kal P w K mg base 1 "_law_cell" ["script", "k"] (spCell K) := by
  obtain ⟨⟨fd, F⟩, hm⟩ := T.at_ 49 "_law_cell" 73
  exact kal_of F hm (ok__law_cell T F) (fun _ _ _ _ _ _ us hl => match us, hl with | [_, _], _ => rfl)
noncomputable abbrev spSidesL : Sp := Prm (fun y : (Lw × Addr) × List Int => [rLn y.1.1 y.1.2, rTI y.2]) (fun _ => []) (fun y => LwOk y.1.1 ∧ y.2.length ≤ 60) (fun y => rLst ((sidesOf y.1.1 y.2).map rLI))
theorem ok__law_sides (T : Tp K mg) {fd : FuncData} (F : FunD K "_law_sides" "_law_sides" (defArgs (top 80)) (defBody (top 80)) (defScope (top 80)) [] [] (He.ga K "_law_sides") fd) : FnOk P w K mg base CX0 1 (He.ga K "_law_sides") fd ["net", "some"] spSidesL := by
  have sc : FnScope ["net", "some", "found", "node", "side"] ["net", "some"] (defScope (top 80)) := ⟨rfl, rfl, rfl, by decide +kernel, rfl, by decide +kernel, by decide +kernel⟩
  refine fn_prm F sc (fun _ => rfl) (fun _ => by first | exact List.nodup_nil | exact nd_fl | simp) fun cdv A outer s H E hr => ?_
  refine ⟨_, (pss_cons (ps_set (i := 2) sc.nd rfl (Or.inl rfl) (pe_lst (pa_cons (pe_callTy call_list_of (by rfl) T.list boot_lst (pa_cons (pv 1) pa_nil)) pa_nil)))
      (pss_cons (ps_for PassesOwn.never rfl (pi_list (pe_ix ix_list (pv 0) pe_int (fun _ _ => rfl))) (pg_name (i := 3) sc.nd rfl (Or.inr rfl)) (pss_one (ps_if (pt_cmpR op_notIn_seq (pv 3) (pe_ix ix_list (pv 0) pe_int (fun _ _ => rfl)) rfl) (pss_one (ps_set (i := 2) sc.nd rfl (Or.inl rfl) (pe_op op_cat (pv 2) (pe_lc (own := [("side", 4)]) (by rfl) sc.nd (pi_list (pv 2)) (blkOk_by (by kernel_rfl)) (fun _ _ _ _ _ => (pg_name (i := 4) sc.nd rfl (Or.inl rfl))) (fun _ _ _ _ _ => pts_nil) (fun _ _ _ _ _ => (pe_op op_cat (pv 4) (pe_lst (pa_cons (pv 3) pa_nil)))))))) pss_nil)))
      (pss_one (ps_ret (pe_lc (own := [("side", 4)]) (by rfl) sc.nd (pi_list (pv 2)) (blkOk_by (by kernel_rfl)) (fun _ _ _ _ _ => (pg_name (i := 4) sc.nd rfl (Or.inl rfl))) (fun _ _ _ _ _ => pts_nil) (fun _ _ _ _ _ => (pe_callB (sortedK K) (by rfl) T.sorted boot_sorted (pa_cons (pv 4) pa_nil)))))))), fun y hp => ?_⟩
  obtain ⟨⟨x, p⟩, s⟩ := y
  obtain ⟨ok, hs⟩ := hp
  have ok : LwOk x := ok
  have hs : s.length ≤ 60 := hs
  have hns : x.ns.length ≤ 60 := ok.1.len
  have hsm : ∀ i, (((x.ns.take i).foldl (grow1 x.ts) [s]).length ≤ 16) ∧ ∀ l ∈ (x.ns.take i).foldl (grow1 x.ts) [s], l.length ≤ 120 := fun i => by
    refine ⟨?_, fun l hl => ?_⟩
    · rw [found_len]
      have h1 : ((x.ns.take i).filter fun y => !decide (y ∈ x.ts)).length ≤ 4 := Nat.le_trans ((List.take_sublist i x.ns).filter _).length_le ok.2
      have h2 : 2 ^ ((x.ns.take i).filter fun y => !decide (y ∈ x.ts)).length ≤ 2 ^ 4 := Nat.pow_le_pow_right (by decide) h1
      simp only [List.length_cons, List.length_nil]; omega
    · have h1 := found_each (ts := x.ts) (m := s.length) (x.ns.take i) [s] (fun l hl => by rw [List.mem_singleton.mp hl]; exact Nat.le_refl _) l hl
      have h2 : (x.ns.take i).length ≤ 60 := by rw [List.length_take]; omega
      omega
  refine hs_set (R := rLst ([s].map rLI)) (ev_lst (Rs := [rLI s]) (ea_cons (ev_cb (ea_cons (ev_var rfl) ea_nil) vc_listT) ea_nil)) ?_
  let I : Nat → Nxt := fun i t1 O1 W1 => ∃ o : Option Rp, t1 = [some (rLn x p), some (rTI s), some (rLst (((x.ns.take i).foldl (grow1 x.ts) [s]).map rLI)), o, none] ∧ O1 = [] ∧ W1 = []
  refine hs_for (src_lst (n_ns (ev_var rfl))) I ⟨_, rfl, rfl, rfl⟩ ?_ ?_
  · rintro i R t1 O1 W1 hR ⟨o, rfl, rfl, rfl⟩
    obtain ⟨n, hn, rfl⟩ := map_get hR
    obtain ⟨h16, h120⟩ := hsm i
    have hnext : (x.ns.take (i + 1)).foldl (grow1 x.ts) [s] = grow1 x.ts ((x.ns.take i).foldl (grow1 x.ts) [s]) n := by rw [snoc_take hn, List.foldl_append]; rfl
    generalize hg : (x.ns.take i).foldl (grow1 x.ts) [s] = fs at h16 h120 hnext
    refine ⟨_, _, tg_name, ?_⟩
    refine ht_if (eb_test (ev_op (ev_var rfl) (n_ts (ev_var rfl)) vo_niL)) (fun ht => ?_) fun hf => ?_
    · have ht : n ∉ x.ts := by simpa using ht
      refine ht_set (i := 2) (R := rLst (fs.map rLI ++ (fs.map fun l => l ++ [n]).map rLI)) (ev_op (ev_var rfl) (EvT.to (ev_lc0 (f := fun l => rLI l) (r := fun l => rLI (l ++ [n])) (src_lst (ev_var rfl)) (small (by omega)) fun l hl => ⟨_, _, tg_name, by simp, EvT.to (R := rLst (l.map (fun n => rIs (.int n)) ++ [rInt n])) (ev_op (ev_var rfl) (ev_lst (ea_cons (ev_var rfl) ea_nil)) (vo_catL (by rw [List.length_map]; exact lineBig' (by have := h120 l hl; simp; omega)))) (by show rLst _ = rLst _; rw [List.map_append]; rfl)⟩) (R' := rLst ((fs.map fun l => l ++ [n]).map rLI)) (by rw [List.map_map]; rfl)) (vo_catL (by simp only [List.length_map]; exact lineBig' (by omega)))) ⟨some (rInt n), ?_, rfl, rfl⟩
      rw [hnext]
      unfold grow1
      rw [if_neg ht, List.map_append]; rfl
    · have hf : n ∈ x.ts := by simpa using hf
      refine ht_next ⟨some (rInt n), ?_, rfl, rfl⟩
      rw [hnext]
      unfold grow1
      rw [if_pos hf]; rfl
  · rintro t1 O1 W1 ⟨o, rfl, rfl, rfl⟩
    have hfin := hsm x.ns.length
    rw [List.take_length] at hfin
    rw [List.length_map, List.take_length]
    refine ht_ret (ev_lc0 (f := fun l => rLI l) (r := fun l => rLI (riseOf l)) (src_lst (ev_var rfl)) (small (Nat.le_trans hfin.1 (by decide))) fun l hl => ⟨_, _, tg_name, by simp, EvT.sub (ev_cb (ea_cons (ev_var rfl) ea_nil) vc_sortedI) fun v G ⟨m, hm, hv⟩ => ?_⟩) ?_
    · show (rLI (riseOf l)).p v G
      rw [riseOf_eq hm]; exact hv
    · show rLst _ = rLst _
      unfold sidesOf foundOf
      rw [List.map_map]; rfl
theorem c__law_sides (T : Tp K mg) : Kal P w K mg base 1 "_law_sides" ["net", "some"] spSidesL := by
  obtain ⟨⟨fd, F⟩, hm⟩ := T.at_ 56 "_law_sides" 80
  exact kal_of F hm (ok__law_sides T F) (fun _ _ _ _ _ _ us hl => match us, hl with | [_, _], _ => rfl)
theorem cut_is {x : Lw} (ok : LwOk x) {s : List Int} (hp : PartOk x.ts s) {v : Int} (h1 : v ∈ (sidesOf x s).map fun a => cutp x.dir x.es (inB a)) (h2 : ∀ b ∈ (sidesOf x s).map fun a => cutp x.dir x.es (inB a), v ≤ b) : v = vOf x.nw s := by
  have nd := rising_nd hp.nodes.2.1
  symm
  refine vOf_eq ⟨?_, fun p hq => ?_⟩
  · obtain ⟨a, ha, e⟩ := List.mem_map.mp h1
    obtain ⟨p, hq, rfl⟩ := (sides_mem ok hp.sub nd).mp ha
    exact ⟨inB (x.ns.filter p), (parts_agree ok.1 hp.sub).mpr (agree_in ok.1 hq), e⟩
  · have hq := (parts_agree ok.1 hp.sub).mp hq
    have hm : x.ns.filter p ∈ sidesOf x s := (sides_mem ok hp.sub nd).mpr ⟨p, hq, rfl⟩
    have := h2 _ (List.mem_map.mpr ⟨_, hm, rfl⟩)
    refine Int.le_trans this (Int.le_of_eq ?_)
    exact cutp_on ok.1.edges _ _ fun y hy => inB_filter hy
noncomputable abbrev spCut : Sp := Prm (fun y : (Lw × Addr) × List Int => [rLn y.1.1 y.1.2, rTI y.2]) (fun y => oLn y.1.1 y.1.2) (fun y => LwOk y.1.1 ∧ PartOk y.1.1.ts y.2) (fun y => rInt (vOf y.1.1.nw y.2))
theorem ok__law_cut (T : Tp K mg) {fd : FuncData} (F : FunD K "_law_cut" "_law_cut" (defArgs (top 81)) (defBody (top 81)) (defScope (top 81)) [] [] (He.ga K "_law_cut") fd) : FnOk P w K mg base CX0 2 (He.ga K "_law_cut") fd ["net", "some"] spCut := by
  have sc : FnScope ["net", "some", "side"] ["net", "some"] (defScope (top 81)) := ⟨rfl, rfl, rfl, by decide +kernel, rfl, by decide +kernel, by decide +kernel⟩
  have c__law_capacity := c__law_capacity (P := P) (w := w) (base := base) T
  have c__law_sides := c__law_sides (P := P) (w := w) (base := base) T
  refine fn_prm F sc (fun _ => rfl) (fun _ => by first | exact List.nodup_nil | exact nd_fl | simp) fun cdv A outer s H E hr => ?_
  refine ⟨_, (pss_one (ps_ret (pe_callB (cr_min rfl) (by rfl) T.min boot_min (pa_cons (pe_lc (own := [("side", 2)]) (by rfl) sc.nd (pi_list (pe_k c__law_sides hr (by decide) (by rfl) (pa_cons (pv 0) (pa_cons (pv 1) pa_nil)))) (blkOk_by (by kernel_rfl)) (fun _ _ _ _ _ => (pg_name (i := 2) sc.nd rfl (Or.inl rfl))) (fun _ _ _ _ _ => pts_nil) (fun _ _ _ _ _ => (pe_k c__law_capacity hr (by decide) (by rfl) (pa_cons (pv 0) (pa_cons (pv 2) pa_nil))))) pa_nil)))), fun y hp => ?_⟩
  obtain ⟨⟨x, p⟩, s⟩ := y
  obtain ⟨ok, hs⟩ := hp
  have ok : LwOk x := ok
  have hs : PartOk x.ts s := hs
  have hl16 := sides_len ok s
  have hlp := sides_some ok s
  refine ht_ret (EvT.sub (ev_cb (ea_cons (EvT.to (ev_lc0 (xs := sidesOf x s) (f := fun a => rLI a) (r := fun a => rInt (cutp x.dir x.es (inB a))) (src_lst (ev_call ((x, p), s) (ea_cons (ev_var rfl) (ea_cons (ev_var rfl) ea_nil)) ⟨ok, part_len ok hs⟩)) (small (Nat.le_trans hl16 (by decide))) fun a ha => ⟨_, _, tg_name, by simp, ev_call ((x, p), false, a) (ea_cons (ev_var rfl) (ea_cons (ev_var rfl) ea_nil)) ok⟩) (R' := rLI ((sidesOf x s).map fun a => cutp x.dir x.es (inB a))) (by show rLst _ = rLst _; rw [List.map_map]; rfl)) ea_nil) (vc_min (by rw [List.length_map]; exact hlp))) fun v G ⟨m, ⟨h1, h2⟩, hv⟩ => ?_) rfl
  rw [cut_is ok hs h1 h2] at hv
  exact hv
theorem c__law_cut (T : Tp K mg) : Kal P w K mg base 2 "_law_cut" ["net", "some"] spCut := by
  obtain ⟨⟨fd, F⟩, hm⟩ := T.at_ 57 "_law_cut" 81
  exact kal_of F hm (ok__law_cut T F) (fun _ _ _ _ _ _ us hl => match us, hl with | [_, _], _ => rfl)
/-- all choices of some of a list -/
def someOf (ts : List Int) : List (List Int) := ts.foldl (fun fs n => fs ++ fs.map (· ++ [n])) [[]]
theorem some_fold : ∀ (ts done : List Int) (fs : List (List Int)), (∀ l ∈ fs, List.Sublist l done) → ∀ l ∈ ts.foldl (fun fs n => fs ++ fs.map (· ++ [n])) fs, List.Sublist l (done ++ ts)
  | [], done, fs, h, l, hl => by rw [List.append_nil]; exact h l hl
  | n :: ts, done, fs, h, l, hl => by
    have := some_fold ts (done ++ [n]) (fs ++ fs.map (· ++ [n])) (fun l hl => by
      rcases List.mem_append.mp hl with hl | hl
      · exact (h l hl).trans (List.sublist_append_left _ _)
      · obtain ⟨k, hk, rfl⟩ := List.mem_map.mp hl
        exact (h k hk).append (List.Sublist.refl _)) l hl
    rwa [List.append_assoc] at this
theorem some_len : ∀ (ts : List Int) (fs : List (List Int)), (ts.foldl (fun fs n => fs ++ fs.map (· ++ [n])) fs).length = fs.length * 2 ^ ts.length
  | [], fs => by simp
  | n :: ts, fs => by
    rw [List.foldl_cons, some_len ts, List.length_append, List.length_map, List.length_cons, Nat.pow_succ, ← Nat.two_mul, Nat.mul_comm 2, Nat.mul_assoc, Nat.mul_comm 2]
theorem some_one : ∀ (ts : List Int) (fs : List (List Int)) (l : List Int), l ∈ fs → l ∈ ts.foldl (fun fs n => fs ++ fs.map (· ++ [n])) fs
  | [], fs, l, h => h
  | n :: ts, fs, l, h => some_one ts _ l (List.mem_append.mpr (.inl h))
theorem some_each : ∀ (ts : List Int) (fs : List (List Int)) (m : Nat), (∀ l ∈ fs, l.length ≤ m) → ∀ l ∈ ts.foldl (fun fs n => fs ++ fs.map (· ++ [n])) fs, l.length ≤ m + ts.length
  | [], fs, m, h, l, hl => h l hl
  | n :: ts, fs, m, h, l, hl => by
    have := some_each ts (fs ++ fs.map (· ++ [n])) (m + 1) (fun l hl => by
      rcases List.mem_append.mp hl with hl | hl
      · exact Nat.le_succ_of_le (h l hl)
      · obtain ⟨k, hk, rfl⟩ := List.mem_map.mp hl
        have := h k hk
        rw [List.length_append]; simp; omega) l hl
    rw [List.length_cons]; omega
def PfS (ts : List Int) (ss : List (List Int)) : Prop := (∀ s ∈ ss, PartOk ts s) ∧ 1 ≤ ss.length ∧ ss.length ≤ 512
abbrev spSetsL : Sp := Prm (fun y : Lw × Addr => [rLn y.1 y.2]) (fun _ => []) (fun y => LwOk y.1) (fun y => rEx (PfS y.1.ts) fun ss => rLst (ss.map rTI))
theorem some_ok {ts : List Int} (h : NodesOk ts) (h2 : 2 ≤ ts.length) (h9 : ts.length ≤ 9) {ss : List (List Int)} (hp : ss.Perm ((someOf ts).filter fun s => decide (0 < (s.length : Int)) && decide ((s.length : Int) < (ts.length : Int)))) : PfS ts ss := by
  refine ⟨fun s hs => ?_, ?_, ?_⟩
  · have hm := List.mem_filter.mp (hp.mem_iff.mp hs)
    have sub : List.Sublist s ts := some_fold ts [] [[]] (fun l hl => by rw [List.mem_singleton.mp hl]; exact List.Sublist.refl _) s hm.1
    have hb := hm.2
    rw [Bool.and_eq_true, decide_eq_true_iff, decide_eq_true_iff] at hb
    exact ⟨⟨fun n hn => h.1 n (sub.subset hn), h.2.1.sublist sub, Nat.le_trans sub.length_le h.2.2⟩, fun n hn => sub.subset hn, by omega, by omega⟩
  · rw [hp.length_eq]
    match ts, h2 with
    | a :: b :: r, _ =>
      have hm : [a] ∈ (someOf (a :: b :: r)).filter fun s => decide (0 < (s.length : Int)) && decide ((s.length : Int) < ((a :: b :: r).length : Int)) := by
        refine List.mem_filter.mpr ⟨?_, ?_⟩
        · show [a] ∈ (a :: b :: r).foldl _ [[]]
          rw [List.foldl_cons]
          exact some_one _ _ _ (by simp)
        · rw [Bool.and_eq_true, decide_eq_true_iff, decide_eq_true_iff]
          simp only [List.length_cons, List.length_nil]; omega
      exact List.length_pos_of_mem hm
  · rw [hp.length_eq]
    refine Nat.le_trans List.filter_sublist.length_le ?_
    unfold someOf
    rw [some_len]
    have := two_pow h9
    simpa using this
theorem ok__law_sets (T : Tp K mg) {fd : FuncData} (F : FunD K "_law_sets" "_law_sets" (defArgs (top 82)) (defBody (top 82)) (defScope (top 82)) [] [] (He.ga K "_law_sets") fd) : FnOk P w K mg base CX0 1 (He.ga K "_law_sets") fd ["net"] spSetsL := by
  have sc : FnScope ["net", "found", "node", "some"] ["net"] (defScope (top 82)) := ⟨rfl, rfl, rfl, by decide +kernel, rfl, by decide +kernel, by decide +kernel⟩
  refine fn_prm F sc (fun _ => rfl) (fun _ => by first | exact List.nodup_nil | exact nd_fl | simp) fun cdv A outer s H E hr => ?_
  refine ⟨_, (pss_cons (ps_set (i := 1) sc.nd rfl (Or.inl rfl) (pe_lst (pa_cons (pe_tup pa_nil) pa_nil)))
      (pss_cons (ps_for PassesOwn.never rfl (pi_list (pe_ix ix_list (pv 0) pe_int (fun _ _ => rfl))) (pg_name (i := 2) sc.nd rfl (Or.inr rfl)) (pss_one (ps_set (i := 1) sc.nd rfl (Or.inl rfl) (pe_op op_cat (pv 1) (pe_lc (own := [("some", 3)]) (by rfl) sc.nd (pi_list (pv 1)) (blkOk_by (by kernel_rfl)) (fun _ _ _ _ _ => (pg_name (i := 3) sc.nd rfl (Or.inl rfl))) (fun _ _ _ _ _ => pts_nil) (fun _ _ _ _ _ => (pe_op (op_catAK K) (pv 3) (pe_tup (pa_cons (pv 2) pa_nil)))))))))
      (pss_one (ps_ret (pe_callB (cr_sortedLx K) (by rfl) T.sorted boot_sorted (pa_cons (pe_lc (own := [("some", 3)]) (by rfl) sc.nd (pi_list (pv 1)) (blkOk_by (by kernel_rfl)) (fun _ _ _ _ _ => (pg_name (i := 3) sc.nd rfl (Or.inl rfl))) (fun _ _ _ _ _ => (pts_one (pt_chain op_lt op_lt pe_int (pe_callB (lenK K) (by rfl) T.len PySem.boot_len (pa_cons (pv 3) pa_nil)) (pe_callB (lenK K) (by rfl) T.len PySem.boot_len (pa_cons (pe_ix (ix_lstK K) (pv 0) pe_int (fun _ _ => rfl)) pa_nil))))) (fun _ _ _ _ _ => (pv 3))) pa_nil)))))), fun y hp => ?_⟩
  obtain ⟨x, p⟩ := y
  have ok : LwOk x := hp
  have h9 : x.ts.length ≤ 9 := ok.1.many.2
  have hsm : ∀ i, ((x.ts.take i).foldl (fun fs n => fs ++ fs.map (· ++ [n])) [[]]).length ≤ 512 ∧ ∀ l ∈ (x.ts.take i).foldl (fun fs n => fs ++ fs.map (· ++ [n])) [([] : List Int)], l.length ≤ 9 := fun i => by
    have hi : (x.ts.take i).length ≤ 9 := by rw [List.length_take]; omega
    refine ⟨?_, fun l hl => ?_⟩
    · rw [some_len]
      have := two_pow hi
      simpa using this
    · have := some_each (x.ts.take i) [[]] 0 (fun l hl => by rw [List.mem_singleton.mp hl]; simp) l hl
      omega
  refine hs_set (R := rLst (([[]] : List (List Int)).map rTI)) (ev_lst (Rs := [rTI []]) (ea_cons (ev_tup ea_nil) ea_nil)) ?_
  let I : Nat → Nxt := fun i t1 O1 W1 => ∃ o : Option Rp, t1 = [some (rLn x p), some (rLst (((x.ts.take i).foldl (fun fs n => fs ++ fs.map (· ++ [n])) [[]]).map rTI)), o, none] ∧ O1 = [] ∧ W1 = []
  refine hs_for (src_lst (n_ts (ev_var rfl))) I ⟨_, rfl, rfl, rfl⟩ ?_ ?_
  · rintro i R t1 O1 W1 hR ⟨o, rfl, rfl, rfl⟩
    obtain ⟨n, hn, rfl⟩ := map_get hR
    obtain ⟨h512, h9b⟩ := hsm i
    have hnext : (x.ts.take (i + 1)).foldl (fun fs n => fs ++ fs.map (· ++ [n])) [[]] = ((x.ts.take i).foldl (fun fs n => fs ++ fs.map (· ++ [n])) [[]]) ++ ((x.ts.take i).foldl (fun fs n => fs ++ fs.map (· ++ [n])) [[]]).map (· ++ [n]) := by rw [snoc_take hn, List.foldl_append]; rfl
    generalize hg : (x.ts.take i).foldl (fun fs n => fs ++ fs.map (· ++ [n])) [[]] = fs at h512 h9b hnext
    refine ⟨_, _, tg_name, ?_⟩
    refine ht_set (i := 1) (R := rLst (fs.map rTI ++ (fs.map fun l => l ++ [n]).map rTI)) (ev_op (ev_var rfl) (EvT.to (ev_lc0 (f := fun l => rTI l) (r := fun l => rTI (l ++ [n])) (src_lst (ev_var rfl)) (small (by omega)) fun l hl => ⟨_, _, tg_name, by simp, EvT.to (R := rTup (l.map (fun n => rIs (.int n)) ++ [rInt n])) (ev_op (ev_var rfl) (ev_tup (ea_cons (ev_var rfl) ea_nil)) (vo_catT (by rw [List.length_map]; exact lineBig' (by have := h9b l hl; simp; omega)))) (by show rTup _ = rTup _; rw [List.map_append]; rfl)⟩) (R' := rLst ((fs.map fun l => l ++ [n]).map rTI)) (by rw [List.map_map]; rfl)) (vo_catL (by simp only [List.length_map]; exact lineBig' (by omega)))) ⟨some (rInt n), ?_, rfl, rfl⟩
    rw [hnext, List.map_append]; rfl
  · rintro t1 O1 W1 ⟨o, rfl, rfl, rfl⟩
    have hfin := hsm x.ts.length
    rw [List.take_length] at hfin
    rw [List.length_map, List.take_length]
    refine ht_ret (R := rEx (PfS x.ts) fun ss => rLst (ss.map rTI)) (EvT.sub (R := rEx (Lex ((someOf x.ts).filter fun s => decide (0 < (s.length : Int)) && decide ((s.length : Int) < (x.ts.length : Int)))) fun mss => rLst (mss.map rTI)) (ev_cb (ea_cons (ev_lc (xs := someOf x.ts) (c := fun s => decide (0 < (s.length : Int)) && decide ((s.length : Int) < (x.ts.length : Int))) (f := fun l => rTI l) (r := fun l => rTI l) (src_lst (ev_var rfl)) (small (Nat.le_trans hfin.1 (by decide))) fun l hl => ⟨_, _, tg_name, by simp, eb_b (ev_chain ev_c (EvT.to (R' := rInt (l.length : Int)) (ev_cb (ea_cons (ev_var rfl) ea_nil) vc_lenT) (by rw [List.length_map])) vo_I0 (EvT.to (R' := rInt (x.ts.length : Int)) (ev_cb (ea_cons (n_ts (ev_var rfl)) ea_nil) vc_lenL) (by rw [List.length_map])) vo_I0), fun _ => ev_var rfl⟩) ea_nil) (vc_sortedLx fun s hs e => by
      have hm := (List.mem_filter.mp hs).2
      rw [e] at hm
      simp at hm)) fun v G ⟨m, hm, hv⟩ => ⟨m, some_ok ok.1.terms ok.1.many.1 h9 hm.1, hv⟩) rfl
theorem c__law_sets (T : Tp K mg) : Kal P w K mg base 1 "_law_sets" ["net"] spSetsL := by
  obtain ⟨⟨fd, F⟩, hm⟩ := T.at_ 58 "_law_sets" 82
  exact kal_of F hm (ok__law_sets T F) (fun _ _ _ _ _ _ us hl => match us, hl with | [_], _ => rfl)
end
end K96
set_option Elab.async false
set_option linter.all false
set_option maxRecDepth 100000
set_option maxHeartbeats 4000000
/-! law k96: a drawn net. Own work. -/
namespace K96
open PySem PySem.Spec L2 Rz Cut
section
variable {P : Program} {w : World} {K : PySem.W.Frag} {mg : Str → Option Value} {base : Heap}
structure EdP (ns : List Int) (dir : Bool) (ed : PM) (m : Int) (n : Nat) : Prop where
  nd : (ed.map (·.1)).Nodup
  each : ∀ e ∈ ed, (e.1.1 ∈ ns ∧ e.1.2 ∈ ns ∧ e.1.1 ≠ e.1.2 ∧ (dir = false → e.1.1 < e.1.2)) ∧ 1 ≤ e.2 ∧ e.2 ≤ m
  len : ed.length ≤ n
theorem edp_put {ns : List Int} {dir : Bool} {ed : PM} {m : Int} {n : Nat} {k : Int × Int} {a : Int} (h : EdP ns dir ed m n) (hu : k.1 ∈ ns) (hv : k.2 ∈ ns) (ne : k.1 ≠ k.2) (up : dir = false → k.1 < k.2) (ha : 1 ≤ a ∧ a ≤ m) : EdP ns dir (pk ed k a) m (n + 1) := by
  refine ⟨pk_nd h.nd, fun e he => ?_, Nat.le_trans pk_len (Nat.succ_le_succ h.len)⟩
  by_cases c : k ∈ ed.map (·.1)
  · rw [pk_in c] at he
    obtain ⟨e0, h0, rfl⟩ := List.mem_map.mp he
    have := h.each e0 h0
    split
    · exact ⟨this.1, ha⟩
    · exact this
  · rw [pk_out c] at he
    rcases List.mem_append.mp he with he | he
    · exact h.each e he
    · rw [List.mem_singleton.mp he]
      exact ⟨⟨hu, hv, ne, up⟩, ha⟩
theorem gt_nn {ns : List Int} {dir : Bool} {ed : PM} {m : Int} {n : Nat} {u v : Int} (h : EdP ns dir ed m n) : 0 ≤ gt ed u v := by
  unfold gt
  cases hl : lk ed (u, v) with
  | none => exact Int.le_refl _
  | some a =>
    have := (h.each _ (lk_mem hl)).2.1
    show 0 ≤ a
    have : 1 ≤ a := this
    omega
def all12 : List Int := (List.range 12).map fun (i : Nat) => (i : Int)
abbrev ArgW := Int × Int × Int × Bool
structure PreW (x : ArgW) : Prop where
  g : 2 ≤ x.1 ∧ x.1 ≤ 4
  i : 0 ≤ x.2.1 ∧ x.2.1 ≤ 3
  m : 1 ≤ x.2.2.1 ∧ x.2.2.1 ≤ 1000000
/-- a drawn net, its capacities at most m -/
structure PfW (x : ArgW) (y : Lw) : Prop where
  ok : LwOk y
  dir : y.dir = x.2.2.2
  cap : ∀ e ∈ y.ed, 1 ≤ e.2 ∧ e.2 ≤ x.2.2.1
  len : y.ed.length ≤ 100
abbrev spNet : Sp := PrmX (fun (x : ArgW) p => [rRef p, rInt x.1, rInt x.2.1, rInt x.2.2.1, rBl x.2.2.2]) (fun _ => boxC) PreW PfW (fun _ y q => rLn y q) (fun _ y => .dT (mP fI y.ed))
theorem lw_ok {ns ts : List Int} {dir : Bool} {ed : PM} {m : Int} {g i : Int} (hg : 2 ≤ g ∧ g ≤ 4) (hi : 0 ≤ i ∧ i ≤ 3) (n1 : ns.Pairwise (· < ·)) (n2 : ∀ k ∈ ns, k ∈ all12) (n3 : ns.length = (g + i).toNat) (t1 : ts.Pairwise (· < ·)) (t2 : ∀ k ∈ ts, k ∈ ns) (t3 : ts.length = g.toNat) (rest : (ns.filter fun y => !decide (y ∈ ts)).length = i.toNat) (he : EdP ns dir ed m 100) : LwOk ⟨dir, ns, ts, ed⟩ := by
  have a12 : ∀ k ∈ all12, 0 ≤ k ∧ k ≤ 99 := by decide
  refine ⟨⟨⟨fun n hn => a12 n (n2 n hn), n1, by show ns.length ≤ 1000; omega⟩, by show ns.length ≤ 60; omega, ⟨?_, ?_, ?_, ?_, ?_⟩, ?_, ⟨fun n hn => a12 n (n2 n (t2 n hn)), t1, by show ts.length ≤ 1000; omega⟩, t2, by show 2 ≤ ts.length ∧ ts.length ≤ 9; omega⟩, by show (ns.filter _).length ≤ 4; rw [rest]; omega⟩
  · show (((ed.map fun e => (e.1.1, e.1.2, e.2)).map fun e => (e.1, e.2.1))).Nodup
    rw [List.map_map]
    exact he.nd
  · intro e h
    obtain ⟨e0, h0, rfl⟩ := List.mem_map.mp h
    exact ⟨(he.each e0 h0).1.1, (he.each e0 h0).1.2.1⟩
  · intro e h
    obtain ⟨e0, h0, rfl⟩ := List.mem_map.mp h
    exact (he.each e0 h0).1.2.2.1
  · intro d e h
    obtain ⟨e0, h0, rfl⟩ := List.mem_map.mp h
    exact (he.each e0 h0).1.2.2.2 d
  · intro e h
    obtain ⟨e0, h0, rfl⟩ := List.mem_map.mp h
    exact (he.each e0 h0).2.1
  · show (ed.map _).length ≤ 400
    rw [List.length_map]
    have := he.len
    omega
theorem rise_eq {a b : List Int} (ha : a.Pairwise (· < ·)) (hb : b.Pairwise (· < ·)) (h : ∀ k, k ∈ a ↔ k ∈ b) : a = b :=
  rise_uniq (n := a) ⟨List.Perm.refl _, ha.imp Int.le_of_lt⟩ ⟨(List.perm_ext_iff_of_nodup (rising_nd hb) (rising_nd ha)).mpr fun k => (h k).symm, hb.imp Int.le_of_lt⟩
theorem rest_len {ns ts : List Int} (n1 : ns.Pairwise (· < ·)) (t1 : ts.Pairwise (· < ·)) (t2 : ∀ k ∈ ts, k ∈ ns) : (ns.filter fun y => !decide (y ∈ ts)).length + ts.length = ns.length := by
  have h1 : ∀ l : List Int, (l.filter fun y => !decide (y ∈ ts)).length + (l.filter fun y => decide (y ∈ ts)).length = l.length := fun l => by
    induction l with
    | nil => rfl
    | cons a l ih =>
      by_cases c : a ∈ ts
      · rw [List.filter_cons_of_neg (by simp [c]), List.filter_cons_of_pos (by simp [c]), List.length_cons, List.length_cons]; omega
      · rw [List.filter_cons_of_pos (by simp [c]), List.filter_cons_of_neg (by simp [c]), List.length_cons, List.length_cons]; omega
  have e1 : ns.filter (fun k => decide (k ∈ ts)) = ts := rise_eq (n1.filter _) t1 fun k => by
    rw [List.mem_filter, decide_eq_true_iff]
    exact ⟨fun z => z.2, fun z => ⟨t2 k z, z⟩⟩
  have := h1 ns
  rw [e1] at this
  exact this
theorem ok__law_net (T : Tp K mg) {fd : FuncData} (F : FunD K "_law_net" "_law_net" (defArgs (top 78)) (defBody (top 78)) (defScope (top 78)) [] [] (He.ga K "_law_net") fd) : FnOk P w K mg base CX0 3 (He.ga K "_law_net") fd ["box", "gates", "inner", "most", "directed"] spNet := by
  have sc : FnScope ["box", "gates", "inner", "most", "directed", "nodes", "terminals", "edges", "turn", "u", "v", "pair", "node"] ["box", "gates", "inner", "most", "directed"] (defScope (top 78)) := ⟨rfl, rfl, rfl, by decide +kernel, rfl, by decide +kernel, by decide +kernel⟩
  have c__law_mixed := c__law_mixed (P := P) (w := w) (base := base) T
  have c__law_take := c__law_take (P := P) (w := w) (base := base) T
  refine fn_prmX F sc (fun _ _ => rfl) (fun _ => rfl) fun cdv A outer s H E hr => ?_
  have hu := hu_of hr
  refine ⟨_, (pss_cons (ps_set (i := 5) sc.nd rfl (Or.inl rfl) (pe_callB cr_sortedI (by rfl) T.sorted boot_sorted (pa_cons (pe_slice sl_list (pe_k c__law_mixed hr (by decide) (by rfl) (pa_cons (pv 0) (pa_cons (pe_listRg rfl (by rfl) T.list (prg_1 (by rfl) T.range pe_int)) pa_nil))) po_none (po_some (pe_op op_add (pv 1) (pv 2)))) pa_nil)))
      (pss_cons (ps_set (i := 6) sc.nd rfl (Or.inr rfl) (pe_callB cr_sortedI (by rfl) T.sorted boot_sorted (pa_cons (pe_slice sl_list (pe_k c__law_mixed hr (by decide) (by rfl) (pa_cons (pv 0) (pa_cons (pv 5) pa_nil))) po_none (po_some (pv 1))) pa_nil)))
      (pss_cons (ps_set (i := 7) sc.nd rfl (Or.inl rfl) pe_dnewT)
      (pss_cons (ps_for PassesOwn.never rfl (pi_range1 (by rfl) T.range (pa_cons (pe_op op_add (pe_op op_add (pv 1) (pe_op op_mul pe_int (pv 2))) (pe_k c__law_take hr (by decide) (by rfl) (pa_cons (pv 0) (pa_cons pe_int pa_nil)))) pa_nil)) (pg_name (i := 8) sc.nd rfl (Or.inl rfl)) (pss_cons (ps_asg (pe_slice sl_list (pe_k c__law_mixed hr (by decide) (by rfl) (pa_cons (pv 0) (pa_cons (pv 5) pa_nil))) po_none (po_some pe_int)) (pg_unl (n := 2) (by rfl) (pgs_cons (pg_name (i := 9) sc.nd rfl (Or.inl rfl)) (pgs_cons (pg_name (i := 10) sc.nd rfl (Or.inl rfl)) pgs_nil))))
      (pss_cons (ps_if (pt_cmpR op_lt (pv 8) (pe_op op_mul pe_int (pv 2)) (nomark _)) (pss_one (ps_set (i := 10) sc.nd rfl (Or.inl rfl) (pe_ix ix_list (pe_lc (own := [("node", 12)]) (by rfl) sc.nd (pi_list (pv 5)) (blkOk_by (by kernel_rfl)) (fun _ _ _ _ _ => (pg_name (i := 12) sc.nd rfl (Or.inl rfl))) (fun _ _ _ _ _ => (pts_one (pt_cmpR (op_ninK K) (pv 12) (pv 6) rfl))) (fun _ _ _ _ _ => (pv 12))) (pe_op op_mod (pe_callTy call_int1 (by rfl) T.int boot_int (pa_cons (pv 8) pa_nil)) (pv 2)) (fun _ _ => rfl)))) pss_nil)
      (pss_one (ps_if (pt_cmpR op_ne (pv 9) (pv 10) (nomark _)) (pss_cons (ps_set (i := 11) sc.nd rfl (Or.inl rfl) (pe_ifExp (PW.pt (pw_or (pt_val (pv 4)) (pw_or1 (pt_cmpR op_lt (pv 9) (pv 10) (nomark _))))) (pe_tup (pa_cons (pv 9) (pa_cons (pv 10) pa_nil))) (pe_tup (pa_cons (pv 10) (pa_cons (pv 9) pa_nil)))))
      (pss_one (ps_dput hu (pv 7) (pv 11) (pe_callB (call_min2 rfl) (by rfl) T.min boot_min (pa_cons (pv 3) (pa_cons (pe_op op_add (pe_op op_add (pe_dget2 hu (pv 7) (pv 11) pe_int ⟨by rfl, by rfl, by rfl, by rfl⟩) pe_int) (pe_k c__law_take hr (by decide) (by rfl) (pa_cons (pv 0) (pa_cons (pv 3) pa_nil)))) pa_nil))) rfl))) pss_nil)))))
      (pss_one (ps_ret (pe_lst (pa_cons (pv 4) (pa_cons (pv 5) (pa_cons (pv 6) (pa_cons (pv 7) pa_nil))))))))))), fun x p hp => ?_⟩
  obtain ⟨g, i, m, dir⟩ := x
  obtain ⟨hg, hi, hm⟩ := hp
  have hg : 2 ≤ g ∧ g ≤ 4 := hg
  have hi : 0 ≤ i ∧ i ≤ 3 := hi
  have hm : 1 ≤ m ∧ m ≤ 1000000 := hm
  refine hs_setZE (k := 0) (ez_some (n := g + i) (j := (g + i).toNat) (ev_var rfl) (EvT.to (ev_listRg1 (m := 12) ev_c rfl (by decide)) (R' := rLI all12) rfl) (by decide) (ev_op (ev_var rfl) (ev_var rfl) vo_I0) (by omega)) rfl (by simp) (kk := fun ns hns => ?_)
  obtain ⟨n1, n2, n3⟩ := some2_ok hns (by decide) (by show (g + i).toNat ≤ 12; omega)
  refine hs_setZE (k := 0) (ez_some (n := g) (j := g.toNat) (ev_var rfl) (ev_var rfl) (by omega) (ev_var rfl) (by omega)) rfl (by simp) (kk := fun ts hts => ?_)
  obtain ⟨t1, t2, t3⟩ := some2_ok hts (rising_nd n1) (by omega)
  refine hs_setN en_dT (k := fun q => ?_)
  have hrest := rest_len n1 t1 t2
  let I : Int → Nat → Nxt := fun d k t1 O1 W1 => ∃ (ed : PM) (o1 o2 o3 o4 : Option Rp), EdP ns dir ed m k ∧ t1 = [some (rRef p), some (rInt g), some (rInt i), some (rInt m), some (rBl dir), some (rLI ns), some (rLI ts), some (rRef q), o1, o2, o3, o4, none] ∧ O1 = [(q, .dT (mP fI ed)), (p, boxC)] ∧ W1 = [q]
  refine hs_forZ (k := 1) (p := p) (c := boxC) (src_range1Z (f := fun d => g + 2 * i + d) (P := fun d => 0 ≤ d ∧ d < 4) (eaz_cons (ez_op (ez_of (ev_op (ev_var rfl) (ev_op ev_c (ev_var rfl) (vo_I (.inl ⟨by decide, by decide⟩))) vo_I0)) (ez_take (ev_var rfl) ev_c (by decide) (by decide)) (VO.exR fun d hd => VO.intro d hd vo_I0)) (eaz_of ea_nil)) (fun d hd => by omega) (fun d hd => by omega)) rfl (by simp) rfl I (fun d hd => ⟨[], _, _, _, _, ⟨List.nodup_nil, by simp, Nat.le_refl _⟩, rfl, rfl, rfl⟩) ?_ ?_
  · rintro d k R t1 O1 W1 hd hR ⟨ed, o1, o2, o3, o4, he, rfl, rfl, rfl⟩
    obtain ⟨hk, rfl⟩ := range_get hR
    refine ⟨_, _, tg_name, ?_⟩
    refine hs_asgZE (k := 1) (ez_two (ev_var rfl) (ev_var rfl) (by omega) (by omega)) rfl (by simp) (hg := fun z hz => tg_unl2) (kk := fun z hz => ?_)
    obtain ⟨u, v⟩ := z
    obtain ⟨hu, hv⟩ := hz
    have hu : u ∈ ns := hu
    have hv : v ∈ ns := hv
    refine ht_seq (Nx := fun t1 O1 W1 => ∃ v, v ∈ ns ∧ t1 = [some (rRef p), some (rInt g), some (rInt i), some (rInt m), some (rBl dir), some (rLI ns), some (rLI ts), some (rRef q), some (rInt (0 + (k : Int))), some (rInt u), some (rInt v), o4, none] ∧ O1 = [(q, .dT (mP fI ed)), (p, boxC)] ∧ W1 = [q]) (ht_if (eb_test (ev_op (ev_var rfl) (ev_op ev_c (ev_var rfl) (vo_I (.inl ⟨by decide, by decide⟩))) vo_I0)) (fun hc => ?_) fun _ => ht_next ⟨v, hv, rfl, rfl, rfl⟩) ?_
    · have hc : 0 + (k : Int) < 2 * i := of_decide_eq_true hc
      have ip : 0 < i := by omega
      have r1 : 0 ≤ (0 + (k : Int)) % i := Int.emod_nonneg _ (by omega)
      have r2 : (0 + (k : Int)) % i < i := Int.emod_lt_of_pos _ ip
      have hj : ((0 + (k : Int)) % i).toNat < (ns.filter fun y => !decide (y ∈ ts)).length := by omega
      refine ht_set (ev_op (ev_lc (xs := ns) (c := fun y => !decide (y ∈ ts)) (f := fun y => rInt y) (r := fun y => rInt y) (src_lst (ev_var rfl)) (small (by omega)) fun y _ => ⟨_, _, tg_name, by simp, eb_test (ev_op (ev_var rfl) (ev_var rfl) vo_niL), fun _ => ev_var rfl⟩) (ev_op (ev_cb (ea_cons (ev_var rfl) ea_nil) vc_int) (ev_var rfl) (vo_I ip)) (vo_ixL (R := rInt (ns.filter fun y => !decide (y ∈ ts))[((0 + (k : Int)) % i).toNat]) (j := ((0 + (k : Int)) % i).toNat) (by omega) (by rw [List.getElem?_map, List.getElem?_eq_getElem hj]; rfl))) ⟨_, (List.mem_filter.mp (List.getElem_mem hj)).1, rfl, rfl, rfl⟩
    · rintro t1 O1 W1 ⟨v, hv, rfl, rfl, rfl⟩
      refine ht_if (eb_test (ev_op (ev_var rfl) (ev_var rfl) vo_neI)) (fun hc => ?_) fun _ => ht_next ⟨ed, _, _, _, _, ⟨he.nd, he.each, by have := he.len; omega⟩, rfl, rfl, rfl⟩
      have hne : u ≠ v := by simpa using hc
      have p1 := keyE_in (dir := dir) hu hv
      have p2 := keyE_ne (dir := dir) hne
      have p3 : dir = false → (keyE dir u v).1 < (keyE dir u v).2 := fun hd => keyE_up hne hd
      generalize hpr : keyE dir u v = pr at p1 p2 p3
      unfold keyE at hpr
      refine hs_set (R := rKT (kP pr)) (ev_if (eb_or (eb_b (ev_var rfl)) fun _ => eb_test (ev_op (ev_var rfl) (ev_var rfl) vo_I0)) (fun h => EvT.to (ev_kP (ev_var rfl) (ev_var rfl)) (by rw [← hpr, if_pos h])) (fun h => EvT.to (ev_kP (ev_var rfl) (ev_var rfl)) (by rw [← hpr, if_neg (by rw [h]; simp)]))) ?_
      have hlen := he.len
      have hk : k < (g + 2 * i + d).toNat := hk
      refine ht_dputTZ (m := 1) (k := 0) (p := p) (c := boxC) (P := fun d => 0 ≤ d ∧ d < m) (Rb := fun d => rInt (if gt ed pr.1 pr.2 + 1 + d < m then gt ed pr.1 pr.2 + 1 + d else m)) (ez_cb (eaz_cons (ez_of (ev_var rfl)) (eaz_cons (ez_op (ez_of (ev_op (EvT.to (ev_dget2T (k := kP pr) (ev_var rfl) (.inr ⟨q, rfl, .inl List.mem_cons_self⟩) (ev_var rfl) ev_c) (R' := rInt (gt ed pr.1 pr.2)) gt_rp) ev_c vo_I0)) (ez_take (ev_var rfl) (ev_var rfl) (by omega) (by omega)) (VO.exR fun d hd => VO.intro d hd vo_I0)) (eaz_of ea_nil))) (VC.exB fun d hd => vc_min2)) rfl (by simp) rfl (ev_var rfl) (ev_var rfl) rfl (.inl (by simp)) (lineBig (by unfold mP; rw [List.length_map]; omega)) fun d hd => ?_
      have hnn := gt_nn (u := pr.1) (v := pr.2) he
      refine ⟨pk ed pr (if gt ed pr.1 pr.2 + 1 + d < m then gt ed pr.1 pr.2 + 1 + d else m), _, _, _, _, edp_put he p1.1 p1.2 p2 p3 (by split <;> omega), rfl, ?_, rfl⟩
      show [(q, OC.dT (pk (mP fI ed) (kP pr) _)), (p, boxC)] = _
      rw [pk_mP]
  · rintro d t1 O1 W1 hd ⟨ed, o1, o2, o3, o4, he, rfl, rfl, rfl⟩
    have hlen : ((List.range (g + 2 * i + d).toNat).map fun (i : Nat) => rInt (0 + (i : Int))).length ≤ 100 := by
      rw [List.length_map, List.length_range]; omega
    have he : EdP ns dir ed m 100 := ⟨he.nd, he.each, Nat.le_trans he.len hlen⟩
    exact ht_ret (ev_lst (ea_cons (ev_var rfl) (ea_cons (ev_var rfl) (ea_cons (ev_var rfl) (ea_cons (ev_var rfl) ea_nil))))) ⟨⟨dir, ns, ts, ed⟩, q, ⟨lw_ok hg hi n1 n2 n3 t1 t2 t3 (by omega) he, rfl, fun e h => (he.each e h).2, he.len⟩, rfl, by simp, by simp, by simp⟩
theorem c__law_net (T : Tp K mg) : Kal P w K mg base 3 "_law_net" ["box", "gates", "inner", "most", "directed"] spNet := by
  obtain ⟨⟨fd, F⟩, hm⟩ := T.at_ 54 "_law_net" 78
  exact kal_of F hm (ok__law_net T F) (fun _ _ _ _ _ _ us hl => match us, hl with | [_, _, _, _, _], _ => rfl)
end
end K96
set_option Elab.async false
set_option linter.all false
set_option maxRecDepth 100000
set_option maxHeartbeats 4000000
/-! law k96: the network of a net; a net with less at one pair. Own work. -/
namespace K96
open PySem PySem.Spec L2 Rz Cut
section
variable {P : Program} {w : World} {K : PySem.W.Frag} {mg : Str → Option Value} {base : Heap}
noncomputable def Lw.cn (x : Lw) : Nw := ⟨x.ns, sortE x.es, x.ts, x.dir⟩
theorem pre_n {x : Lw} (ok : LwOk x) {ns ts : List Int} {es : Edges} (bn be bt : Bool) (hn : ns.Perm x.ns) (he : es.Perm x.es) (ht : ts.Perm x.ts) : PreN ⟨ns, bn, es, be, ts, bt, x.dir⟩ := by
  have o := ok.1
  refine ⟨⟨fun n hn2 => o.nodes.1 n (hn.mem_iff.mp hn2), hn.nodup_iff.mpr (rising_nd o.nodes.2.1), ?_⟩, ⟨⟨fun n hn2 => o.terms.1 n (ht.mem_iff.mp hn2), ht.nodup_iff.mpr (rising_nd o.terms.2.1), ?_⟩, ?_, fun y hy => hn.mem_iff.mpr (o.sub y (ht.mem_iff.mp hy))⟩, fun e h => ?_, ?_, ?_⟩
  · show ns.length ≤ 1000
    rw [hn.length_eq]; exact o.nodes.2.2
  · show ts.length ≤ 1000
    rw [ht.length_eq]; exact o.terms.2.2
  · show 2 ≤ ts.length
    rw [ht.length_eq]; exact o.many.1
  · have h : e ∈ x.es := he.mem_iff.mp h
    have h1 := o.edges.inV e h
    exact ⟨o.nodes.1 _ h1.1, o.nodes.1 _ h1.2, hn.mem_iff.mpr h1.1, hn.mem_iff.mpr h1.2, o.edges.ne e h, fun d => o.edges.up d e h, o.edges.pos e h⟩
  · show (es.map _).Nodup
    exact (he.map _).nodup_iff.mpr o.edges.nd
  · show es.length ≤ 1000
    rw [he.length_eq]
    exact Nat.le_trans o.elen (by decide)
theorem net_cn {x : Lw} (ok : LwOk x) {ns ts : List Int} {es : Edges} {bn be bt : Bool} (hn : ns.Perm x.ns) (he : es.Perm x.es) (ht : ts.Perm x.ts) : netOf ⟨ns, bn, es, be, ts, bt, x.dir⟩ = x.cn := by
  have o := ok.1
  unfold netOf Lw.cn
  show (⟨riseOf ns, sortE es, riseOf ts, x.dir⟩ : Nw) = _
  rw [riseOf_eq (l := ns) (m := x.ns) ⟨hn.symm, o.nodes.2.1.imp Int.le_of_lt⟩, riseOf_eq (l := ts) (m := x.ts) ⟨ht.symm, o.terms.2.1.imp Int.le_of_lt⟩, sortE_congr he]
theorem cn_ok {x : Lw} (ok : LwOk x) : NwOk x.cn := by
  have o := ok.1
  have h := sortE_perm x.es
  exact ⟨o.nodes, o.len, ⟨(h.map _).nodup_iff.mpr o.edges.nd, fun e m => o.edges.inV e (h.mem_iff.mp m), fun e m => o.edges.ne e (h.mem_iff.mp m), fun d e m => o.edges.up d e (h.mem_iff.mp m), fun e m => o.edges.pos e (h.mem_iff.mp m)⟩, by show (sortE x.es).length ≤ 400; rw [h.length_eq]; exact o.elen, o.terms, o.sub, o.many⟩
/-- the law's pairs, sorted -/
def keysL (ed : PM) : List (List Int) := ed.map fun e => [e.1.1, e.1.2]
theorem keys_ne {ed : PM} : ∀ ns ∈ keysL ed, ns ≠ [] := fun ns h => by
  obtain ⟨e, _, rfl⟩ := List.mem_map.mp h
  simp
theorem keys_fst {ed : PM} : (mP fI ed).map (·.1) = (keysL ed).map (·.map Sum.inl) := by
  unfold mP keysL
  rw [List.map_map, List.map_map]
  rfl
theorem ev_keys {t : Tys} {O : Os} {te : TE} {R0 : Rp} {ed : PM} (h : EvT t O te R0) (d : DT O R0 (mP fI ed)) : EvT t O (tCB rSortedDT (tCons te tNil)) (rLst ((lexOf (keysL ed)).map rTI)) := (ev_cb (ea_cons h ea_nil) (vc_sortedDT d keys_fst keys_ne)).sub fun v G ⟨m, hm, hv⟩ => by
  rw [lexOf_eq hm]; exact hv
theorem keys_perm (ed : PM) : ((lexOf (keysL ed)).map rTI).Perm (ed.map fun e => rTI [e.1.1, e.1.2]) := by
  obtain ⟨m, hm⟩ := lex_exists (keysL ed)
  rw [lexOf_eq hm]
  have := hm.1.map rTI
  unfold keysL at this
  rw [List.map_map] at this
  exact this
theorem ed_es {x : Lw} {l : PM} (h : l.Perm x.ed) : (l.map fun e => (e.1.1, e.1.2, e.2)).Perm x.es := h.map _
noncomputable abbrev spNetwork (K : PySem.W.Frag) : Sp := PrmM (fun (x : Lw × Addr) p => [rRef p, rLn x.1 x.2]) (fun _ => boxC) (fun x => oLn x.1 x.2) (fun x => LwOk x.1) (fun _ c => c = boxC) (fun x => rNet K x.1.cn)
theorem ok__law_network (T : Tp K mg) {fd : FuncData} (F : FunD K "_law_network" "_law_network" (defArgs (top 83)) (defBody (top 83)) (defScope (top 83)) [] [] (He.ga K "_law_network") fd) : FnOk P w K mg base CX0 8 (He.ga K "_law_network") fd ["box", "net"] (spNetwork K) := by
  have sc : FnScope ["box", "net", "edges", "nodes", "terminals", "pair"] ["box", "net"] (defScope (top 83)) := ⟨rfl, rfl, rfl, by decide +kernel, rfl, by decide +kernel, by decide +kernel⟩
  have c__law_mixed := c__law_mixed (P := P) (w := w) (base := base) T
  have c__law_take := c__law_take (P := P) (w := w) (base := base) T
  obtain ⟨kwfd_directed_terminals_edges_nodes_0, kwg_directed_terminals_edges_nodes_0, kwok_directed_terminals_edges_nodes_0, kwb_directed_terminals_edges_nodes_0⟩ := kw_Network_directed_terminals_edges_nodes_0 (P := P) (w := w) (base := base) T
  have c_Network4 := c_Network4 (P := P) (w := w) (base := base) T
  refine fn_prmM F sc (fun _ _ => rfl) (fun _ => rfl) fun cdv A outer s H E hr => ?_
  have hu := hu_of hr
  refine ⟨_, (pss_cons (ps_setLc (i := 2) (own := [("pair", 5)]) (by rfl) sc.nd rfl rfl (sw_true rfl rfl rfl (by decide +kernel)) (pi_list (pe_k c__law_mixed hr (by decide) (by rfl) (pa_cons (pv 0) (pa_cons (pe_callB (cr_sortedDT (by rfl)) (by rfl) T.sorted boot_sorted (pa_cons (pe_ix ix_list (pv 1) pe_int (fun _ _ => rfl)) pa_nil)) pa_nil)))) (blkOk_by (by kernel_rfl)) (fun _ _ _ _ _ => (pg_name (i := 5) sc.nd rfl (Or.inl rfl))) (fun _ _ _ _ _ => pts_nil) (fun _ _ _ _ _ => (pe_op (op_catAK K) (pv 5) (pe_tup (pa_cons (pe_dget hu (pe_ix (ix_lstK K) (pv 1) pe_int (fun _ _ => rfl)) (pv 5) (fun _ _ => rfl)) pa_nil)))))
      (pss_cons (ps_par (i := 3) (j := 4) (by rfl) sc.nd rfl rfl (by decide) rfl rfl (pa_cons (pe_k c__law_mixed hr (by decide) (by rfl) (pa_cons (pv 0) (pa_cons (pe_ix ix_list (pv 1) pe_int (fun _ _ => rfl)) pa_nil))) (pa_cons (pe_k c__law_mixed hr (by decide) (by rfl) (pa_cons (pv 0) (pa_cons (pe_ix ix_list (pv 1) pe_int (fun _ _ => rfl)) pa_nil))) pa_nil)) (by rfl))
      (pss_cons (ps_if (pt_cmpR op_eq (pe_k c__law_take hr (by decide) (by rfl) (pa_cons (pv 0) (pa_cons pe_int pa_nil))) pe_int (nomark _)) (pss_one (ps_ret (C8.pe_mk c_Network4 hr (by decide) (by rfl) (pa_cons (pv 3) (pa_cons (pv 2) (pa_cons (pv 4) (pa_cons (pe_ix ix_list (pv 1) pe_int (fun _ _ => rfl)) pa_nil))))))) pss_nil)
      (pss_one (ps_ret (pe_makeK0 T.mkr_Network kwok_directed_terminals_edges_nodes_0 (hr.mono (by decide)) (by rfl) T.mg_Network kwb_directed_terminals_edges_nodes_0 pass0 (pk_cons (pe_ix ix_list (pv 1) pe_int (fun _ _ => rfl)) (pk_cons (pe_callTy call_tuple_of (by rfl) T.tuple boot_tup (pa_cons (pv 4) pa_nil)) (pk_cons (pe_callTy call_tuple_of (by rfl) T.tuple boot_tup (pa_cons (pv 2) pa_nil)) (pk_cons (pv 3) pk_nil)))))))))), fun x p hp nd => ?_⟩
  obtain ⟨x, q⟩ := x
  have ok : LwOk x := hp
  have o := ok.1
  have hns : x.ns.length ≤ 60 := o.len
  have hts : x.ts.length ≤ 9 := o.many.2
  have hes : x.ed.length ≤ 400 := by have := o.elen; unfold Lw.nw Lw.es at this; simpa using this
  have nde := ed_nd ok
  have hkl : ((lexOf (keysL x.ed)).map rTI).length = x.ed.length := by rw [(keys_perm x.ed).length_eq, List.length_map]
  refine hs_setZE (k := 0) (P := fun l : PM => l.Perm x.ed) (Rb := fun l => rLst (l.map fun e => rEd (ceE e))) (ez_lc0 (xz := fun l : PM => l) (f := fun e => rTI [e.1.1, e.1.2]) ((ez_mixed (ev_var rfl) (ev_keys (ed := x.ed) (n_ed (ev_var rfl)) (.inr ⟨q, rfl, .inl (List.mem_cons_of_mem _ List.mem_cons_self)⟩)) (by rw [hkl]; omega)).sub fun v G ⟨ss, h1, hv⟩ => ?_) (fun l hl => small (by rw [hl.length_eq]; omega)) fun l hl e he => ⟨_, _, tg_name, by simp, ?_⟩) rfl (by simp) (kk := fun l hl => ?_)
  · obtain ⟨l, h3, rfl⟩ := perm_map_inv (h1.trans (keys_perm x.ed)) x.ed rfl
    exact ⟨l, h3, hv⟩
  · have hl : l.Perm x.ed := hl
    have h0 : e ∈ x.ed := hl.mem_iff.mp he
    exact EvT.to (R := rTup ([rInt e.1.1, rInt e.1.2] ++ [rInt e.2])) (ev_op (ev_var rfl) (ev_tup (ea_cons (ev_dgetT (r := mP fI x.ed) (k := kP e.1) (R := rInt e.2) (n_ed (ev_var rfl)) (.inr ⟨q, rfl, .inl (List.mem_cons_of_mem _ List.mem_cons_self)⟩) (ev_var rfl) (by rw [lk_mP, lk_of_mem nde h0]; rfl)) ea_nil)) (vo_catT (lineBig' (by simp)))) rfl
  have hl : l.Perm x.ed := hl
  have he := ed_es hl
  refine hs_parZZ (k := 0) (P := fun ns : List Int => ns.Perm x.ns) (Rb := fun ns => rLI ns) (Q := fun ts : List Int => ts.Perm x.ts) (Rc := fun ts => rLI ts) ((ez_mixed (ev_var rfl) (n_ns (x := x) (ev_var rfl)) (by rw [List.length_map]; omega)).sub fun v G ⟨ss, h1, hv⟩ => ?_) ((ez_mixed (ev_var rfl) (n_ts (x := x) (ev_var rfl)) (by rw [List.length_map]; omega)).sub fun v G ⟨ss, h1, hv⟩ => ?_) rfl (by simp) (kk := fun ns ts hn ht => ?_)
  · obtain ⟨l, h3, rfl⟩ := perm_map_inv h1 x.ns rfl
    exact ⟨l, h3, hv⟩
  · obtain ⟨l, h3, rfl⟩ := perm_map_inv h1 x.ts rfl
    exact ⟨l, h3, hv⟩
  have eL : rLst (l.map fun e => rEd (ceE e)) = rLst ((l.map fun e => (e.1.1, e.1.2, e.2)).map rEd) := by rw [List.map_map]; rfl
  refine HT.eq (t' := [some (rRef p), some (rLn x q), some (rLst ((l.map fun e => (e.1.1, e.1.2, e.2)).map rEd)), some (rLI ns), some (rLI ts), none]) ?_ (by rw [← eL]; rfl) rfl rfl
  refine hs_ifZ (k := 0) (p := p) (ebz_test (P := fun d => 0 ≤ d ∧ d < 2) (f := fun d => decide (d = 0)) (ez_op (ez_take (ev_var rfl) ev_c (by decide) (by decide)) (ez_of ev_c) (VO.exL fun d hd => VO.intro d hd vo_eqI))) rfl (by simp) (h1 := fun _ => ?_) (h2 := fun _ => ?_)
  · refine ht_ret (EvT.to (ev_net4 (⟨ns, false, l.map fun e => (e.1.1, e.1.2, e.2), false, ts, false, x.dir⟩ : ArgN) (ea_cons (ev_var rfl) (ea_cons (ev_var rfl) (ea_cons (ev_var rfl) (ea_cons (n_dir (ev_var rfl)) ea_nil)))) (pre_n ok _ _ _ hn he ht)) (by rw [net_cn ok hn he ht])) ⟨rfl, boxC, rfl, List.mem_cons_self⟩
  · refine ht_ret (R := rNet K x.cn) ((ev_makeKE (⟨ns, false, l.map fun e => (e.1.1, e.1.2, e.2), true, ts, true, x.dir⟩ : ArgN) ea_nil (ea_cons (n_dir (ev_var rfl)) (ea_cons (ev_cb (ea_cons (ev_var rfl) ea_nil) vc_tupleL) (ea_cons (ev_cb (ea_cons (ev_var rfl) ea_nil) vc_tupleL) (ea_cons (ev_var rfl) ea_nil)))) rfl rfl (fun y vs zs G h1 h2 => ?_) (pre_n ok _ _ _ hn he ht)).sub fun v G hv => ?_) ⟨rfl, boxC, rfl, List.mem_cons_self⟩
    · match vs, h1, zs, h2 with
      | [], _, [z1, z2, z3, z4], ⟨g1, g2, g3, g4, _⟩ => exact ⟨[z4, z3, z2, z1], rfl, g4, g3, g2, g1, trivial⟩
    · rw [← net_cn ok hn he ht (bn := false) (be := true) (bt := true)]
      exact rEx_net hv
theorem c__law_network (T : Tp K mg) : Kal P w K mg base 8 "_law_network" ["box", "net"] (spNetwork K) := by
  obtain ⟨⟨fd, F⟩, hm⟩ := T.at_ 59 "_law_network" 83
  exact kal_of F hm (ok__law_network T F) (fun _ _ _ _ _ _ us hl => match us, hl with | [_, _], _ => rfl)
/-- less f at the pair k, none with nothing left -/
def lessE (ed : PM) (k : Int × Int) (f : Int) : PM := (ed.map fun e => (e.1, e.2 - if e.1 = k then f else 0)).filter fun e => decide (0 < e.2)
def Lw.fall (x : Lw) (k : Int × Int) (f : Int) : Lw := ⟨x.dir, x.ns, x.ts, lessE x.ed k f⟩
/-- the law's net, its pairs a known dict -/
abbrev rLk (x : Lw) : Rp := rLst [rBl x.dir, rLI x.ns, rLI x.ts, rPM x.ed]
theorem keys_ed {ed : PM} : (mP fI ed).map (fun e => rKT e.1) = ed.map fun e => rKT (kP e.1) := by
  unfold mP
  rw [List.map_map]; rfl
theorem pk_all {r : List (List Key × Rp)} : ∀ {l : List (List Key × Rp)}, ((l ++ r).map (·.1)).Nodup → pkAll l r = l ++ r := by
  induction r with
  | nil => intro l _; rw [List.append_nil]; rfl
  | cons e r ih =>
    intro l h
    obtain ⟨k, R⟩ := e
    have hn : k ∉ l.map (·.1) := fun hk => by
      rw [List.map_append] at h
      exact (List.nodup_append.mp h).2.2 k hk k (by simp) rfl
    show pkAll (pk l k R) r = _
    rw [pk_out hn, ih (by simpa using h)]
    simp
theorem pk_mPs {ed : PM} (nd : (ed.map (·.1)).Nodup) : pkAll [] (mP fI ed) = mP fI ed := by
  have := pk_all (l := []) (r := mP fI ed) (by
    rw [List.nil_append]
    unfold mP
    rw [List.map_map, show ((fun x : List Key × Rp => x.1) ∘ fun e : (Int × Int) × Int => (kP e.1, fI e.2)) = kP ∘ (·.1) from rfl, ← List.map_map]
    exact List.pairwise_map.mpr (nd.imp fun hne e => hne (kP_inj _ _ e)))
  simpa using this
theorem less_nd {ed : PM} {k : Int × Int} {f : Int} (nd : (ed.map (·.1)).Nodup) : ((ed.map fun e => (e.1, e.2 - if e.1 = k then f else 0)).map (·.1)).Nodup := by
  rw [List.map_map]; exact nd
abbrev spLessN : Sp := PrmY (fun y : (Lw × Addr) × (Int × Int) × Int => [rLn y.1.1 y.1.2, rTI [y.2.1.1, y.2.1.2], rInt y.2.2]) (fun y => oLn y.1.1 y.1.2) (fun y => LwOk y.1.1) (fun y z => z = y.1.1.fall y.2.1 y.2.2) (fun _ z q => rLn z q) (fun _ z => .dT (mP fI z.ed))
theorem ok__law_less (T : Tp K mg) {fd : FuncData} (F : FunD K "_law_less" "_law_less" (defArgs (top 84)) (defBody (top 84)) (defScope (top 84)) [] [] (He.ga K "_law_less") fd) : FnOk P w K mg base CX0 1 (He.ga K "_law_less") fd ["net", "pair", "fewer"] spLessN := by
  have sc : FnScope ["net", "pair", "fewer", "edges", "one"] ["net", "pair", "fewer"] (defScope (top 84)) := ⟨rfl, rfl, rfl, by decide +kernel, rfl, by decide +kernel, by decide +kernel⟩
  refine fn_prmY F sc (fun _ => rfl) (fun _ => by first | exact List.nodup_nil | simp) fun cdv A outer s H E hr => ?_
  have hu := hu_of hr
  refine ⟨_, (pss_cons (ps_set (i := 3) sc.nd rfl (Or.inr rfl) (pe_callTy (cr_dictPT (by rfl) hr.units) (by rfl) T.dict boot_dict (pa_cons (pe_lock (pe_lc (own := [("one", 4)]) (by rfl) sc.nd (pi_keys (pe_ix ix_list (pv 0) pe_int (fun _ _ => rfl))) (blkOk_by (by kernel_rfl)) (fun _ _ _ _ _ => (pg_name (i := 4) sc.nd rfl (Or.inl rfl))) (fun _ _ _ _ _ => pts_nil) (fun _ _ _ _ _ => (pe_tup (pa_cons (pv 4) (pa_cons (pe_op op_sub (pe_dget hu (pe_ix (ix_lstK K) (pv 0) pe_int (fun _ _ => rfl)) (pv 4) (fun _ _ => rfl)) (pe_ifExp (pt_cmpR (op_eqDK K hr.units) (pv 4) (pv 1) (nomark _)) (pv 2) pe_int)) pa_nil)))))) pa_nil)))
      (pss_one (ps_ret (pe_lst (pa_cons (pe_ix ix_list (pv 0) pe_int (fun _ _ => rfl)) (pa_cons (pe_ix ix_list (pv 0) pe_int (fun _ _ => rfl)) (pa_cons (pe_ix ix_list (pv 0) pe_int (fun _ _ => rfl)) (pa_cons (pe_callTy (cr_dictPT (by rfl) hr.units) (by rfl) T.dict boot_dict (pa_cons (pe_lock (pe_lc (own := [("one", 4)]) (by rfl) sc.nd (pi_keys (pv 3)) (blkOk_by (by kernel_rfl)) (fun _ _ _ _ _ => (pg_name (i := 4) sc.nd rfl (Or.inl rfl))) (fun _ _ _ _ _ => (pts_one (pt_cmpR op_gt (pe_dget hu (pv 3) (pv 4) (fun _ _ => rfl)) pe_int (nomark _)))) (fun _ _ _ _ _ => (pe_tup (pa_cons (pv 4) (pa_cons (pe_dget hu (pv 3) (pv 4) (fun _ _ => rfl)) pa_nil)))))) pa_nil)) pa_nil)))))))), fun y hp => ?_⟩
  obtain ⟨⟨x, q⟩, k, f⟩ := y
  have ok : LwOk x := hp
  have nde := ed_nd ok
  have hes : x.ed.length ≤ 400 := by have := ok.1.elen; unfold Lw.nw Lw.es at this; simpa using this
  have nd2 := less_nd (k := k) (f := f) nde
  let e2 : PM := x.ed.map fun e => (e.1, e.2 - if e.1 = k then f else 0)
  refine hs_setN (c := .dT (mP fI e2)) (EvN.to (en_dictPT (r := mP fI e2) (EvT.to (ev_lockT (k := 0) (p := q) (r := mP fI x.ed) (by simp) rfl fun od l => ev_lcL0 (xs := x.ed) (L := [(q, .lkT od l (mP fI x.ed))]) (f := fun e => rKT (kP e.1)) (r := fun e => rTup [rKT (kP e.1), rInt (e.2 - if e.1 = k then f else 0)]) (keys_ed ▸ src_keysT (n_ed (ev_var rfl)) List.mem_cons_self) (fun e he => (by rw [List.mem_singleton.mp he]; exact List.mem_cons_self)) (small (by omega)) fun e he => ⟨_, _, tg_name, by simp, ev_tup (ea_cons (ev_var rfl) (ea_cons (ev_op (ev_dgetT (r := mP fI x.ed) (k := kP e.1) (R := rInt e.2) (n_ed (ev_var rfl)) (.inr ⟨q, rfl, .inr ⟨od, l, List.mem_cons_self⟩⟩) (ev_var rfl) (by rw [lk_mP, lk_of_mem nde he]; rfl)) (ev_if (eb_test (ev_op (ev_var rfl) (ev_var rfl) (vo_eqP (k := e.1) (j := k)))) (fun h => EvT.to (ev_var rfl) (by rw [if_pos (of_decide_eq_true h)])) (fun h => EvT.to ev_c (by rw [if_neg (of_decide_eq_false h)]))) vo_I0) ea_nil))⟩) (by show rLst _ = rLst _; simp only [e2, mP, List.map_map]; rfl))) (by rw [pk_mPs nd2])) (k := fun d => ?_)
  refine HT.nd fun nd3 => ?_
  have eL : rLst ((e2.filter fun e => decide (0 < e.2)).map fun e => rTup [rKT (kP e.1), rInt e.2]) = rLst ((mP fI (lessE x.ed k f)).map fun e => rTup [rKT e.1, e.2]) := by
    show rLst _ = rLst _
    unfold mP
    rw [List.map_map]; rfl
  have hlen2 : e2.length ≤ 400 := by simp only [e2, List.length_map]; omega
  refine ht_retL4N (n_dir (ev_var rfl)) (n_ns (ev_var rfl)) (n_ts (ev_var rfl)) (EvN.to (en_dictPT (r := mP fI (lessE x.ed k f)) (EvT.to (ev_lockT (k := 0) (p := d) (r := mP fI e2) nd3 rfl fun od l => ev_new (en_lcL (xs := e2) (L := [(d, .lkT od l (mP fI e2))]) (f := fun e => rKT (kP e.1)) (c := fun e => decide (0 < e.2)) (r := fun e => rTup [rKT (kP e.1), rInt e.2]) (keys_ed ▸ src_keysT (ev_var rfl) List.mem_cons_self) (fun e he => (by rw [List.mem_singleton.mp he]; exact List.mem_cons_self)) (small (by omega)) fun e he => ⟨_, _, tg_name, by simp, eb_test (ev_op (ev_dgetT (r := mP fI e2) (k := kP e.1) (R := rInt e.2) (ev_var rfl) (.inr ⟨d, rfl, .inr ⟨od, l, List.mem_cons_self⟩⟩) (ev_var rfl) (by rw [lk_mP, lk_of_mem nd2 he]; rfl)) ev_c vo_I0), fun _ => ev_tup (ea_cons (ev_var rfl) (ea_cons (ev_dgetT (r := mP fI e2) (k := kP e.1) (R := rInt e.2) (ev_var rfl) (.inr ⟨d, rfl, .inr ⟨od, l, List.mem_cons_self⟩⟩) (ev_var rfl) (by rw [lk_mP, lk_of_mem nd2 he]; rfl)) ea_nil))⟩) oc_lst) eL)) (congrArg OC.dT (pk_mPs (ed := lessE x.ed k f) (nd2.sublist (List.filter_sublist.map _))))) (k := fun d2 => ⟨x.fall k f, d2, rfl, rfl, List.mem_cons_self, List.mem_cons_self⟩)
theorem c__law_less (T : Tp K mg) : Kal P w K mg base 1 "_law_less" ["net", "pair", "fewer"] spLessN := by
  obtain ⟨⟨fd, F⟩, hm⟩ := T.at_ 60 "_law_less" 84
  exact kal_of F hm (ok__law_less T F) (fun _ _ _ _ _ _ us hl => match us, hl with | [_, _, _], _ => rfl)
abbrev spEndsL : Sp := PrmM (fun (x : (Lw × Addr) × Int × Int) p => [rRef p, rLn x.1.1 x.1.2, rTI [x.2.1, x.2.2]]) (fun _ => boxC) (fun x => oLn x.1.1 x.1.2) (fun _ => True) (fun _ c => c = boxC) (fun x => rEx (fun z : Int × Int => z = x.2 ∨ (x.1.1.dir = false ∧ z = (x.2.2, x.2.1))) fun z => rTI [z.1, z.2])
theorem ok__law_ends (T : Tp K mg) {fd : FuncData} (F : FunD K "_law_ends" "_law_ends" (defArgs (top 85)) (defBody (top 85)) (defScope (top 85)) [] [] (He.ga K "_law_ends") fd) : FnOk P w K mg base CX0 2 (He.ga K "_law_ends") fd ["box", "net", "pair"] spEndsL := by
  have sc : FnScope ["box", "net", "pair"] ["box", "net", "pair"] (defScope (top 85)) := ⟨rfl, rfl, rfl, by decide +kernel, rfl, by decide +kernel, by decide +kernel⟩
  have c__law_take := c__law_take (P := P) (w := w) (base := base) T
  refine fn_prmM F sc (fun _ _ => rfl) (fun _ => rfl) fun cdv A outer s H E hr => ?_
  refine ⟨_, (pss_one (ps_ret (pe_ifExp (PW.pt (pw_or (pt_val (pe_ix ix_list (pv 1) pe_int (fun _ _ => rfl))) (pw_or1 (pt_cmpR op_eq (pe_k c__law_take hr (by decide) (by rfl) (pa_cons (pv 0) (pa_cons pe_int pa_nil))) pe_int (nomark _))))) (pv 2) (pe_revT (pv 2))))), fun x p hp nd => ?_⟩
  obtain ⟨⟨x, q⟩, a, b⟩ := x
  have hb : ∀ {t : Tys} {O : Os} {td tb : TE} {E : XK}, EvT t O td (rLn x q) → EvT t O tb (rRef p) → EbZ p boxC t O (tOr (tB (tOp (rIxL K) td (tC (.int 0)))) (tTest (tOp rEq (tCall spTake [] E (tCons tb (tCons (tC (.int 2)) tNil))) (tC (.int 0))))) (fun v => v = false → x.dir = false) := fun {t O td tb E} h1 h2 =>
    ebz_or (b1 := x.dir) (bp := fun v => v = false → x.dir = false) (eb_b (n_dir h1)) (fun h => EbZ.imp (ebz_test (P := fun d => 0 ≤ d ∧ d < 2) (f := fun d => decide (d = 0)) (ez_op (ez_take h2 ev_c (by decide) (by decide)) (ez_of ev_c) (VO.exL fun d hd => VO.intro d hd vo_eqI))) fun _ _ _ => h) (fun _ h => Bool.noConfusion h)
  refine ht_retZ (k := 0) (p := p) (c := boxC) (R := rEx (fun z : Int × Int => z = (a, b) ∨ (x.dir = false ∧ z = (b, a))) fun z => rTI [z.1, z.2]) (ez_ifE (bp := fun v => v = false → x.dir = false) (hb (ev_var rfl) (ev_var rfl)) (fun _ => ez_of (EvT.intro (a, b) (.inl rfl) (ev_var rfl))) (fun h => ez_of (EvT.intro (b, a) (.inr ⟨h rfl, rfl⟩) (ev_revT (Rs := [rInt a, rInt b]) (ev_var rfl))))) rfl (by simp) (kk := ⟨rfl, boxC, rfl, List.mem_cons_self⟩)
theorem c__law_ends (T : Tp K mg) : Kal P w K mg base 2 "_law_ends" ["box", "net", "pair"] spEndsL := by
  obtain ⟨⟨fd, F⟩, hm⟩ := T.at_ 61 "_law_ends" 85
  exact kal_of F hm (ok__law_ends T F) (fun _ _ _ _ _ _ us hl => match us, hl with | [_, _, _], _ => rfl)
end
end K96
set_option Elab.async false
set_option linter.all false
set_option maxRecDepth 100000
set_option maxHeartbeats 4000000
/-! law k96: plain facts. Own work. -/
namespace K96
open PySem PySem.Spec L2 Rz Cut
section
/-- the net with capacity c at the pair k -/
def setC (ed : PM) (k : Int × Int) (c : Int) : PM := (ed.filter fun e => !decide (e.1 = k)) ++ if 0 < c then [(k, c)] else []
def Lw.put (x : Lw) (k : Int × Int) (c : Int) : Lw := ⟨x.dir, x.ns, x.ts, setC x.ed k c⟩
theorem filter_ne {l : PM} {k : Int × Int} (h : k ∉ l.map (·.1)) : (l.filter fun e => !decide (e.1 = k)) = l := List.filter_eq_self.mpr fun e he => by
  have : e.1 ≠ k := fun z => h (List.mem_map.mpr ⟨e, he, z⟩)
  simp [this]
theorem filter_kk {l : PM} {k : Int × Int} : ((l.filter fun e => !decide (e.1 = k)).filter fun e => !decide (e.1 = k)) = l.filter fun e => !decide (e.1 = k) := by
  rw [List.filter_filter]
  simp
theorem set_set {ed : PM} {k : Int × Int} {c d : Int} : setC (setC ed k c) k d = setC ed k d := by
  unfold setC
  rw [List.filter_append, filter_kk]
  congr 1
  have : (if 0 < c then [(k, c)] else []).filter (fun e => !decide (e.1 = k)) = ([] : PM) := by split <;> simp
  rw [this, List.append_nil]
theorem put_put {x : Lw} {k : Int × Int} {c d : Int} : (x.put k c).put k d = x.put k d := by
  unfold Lw.put
  rw [set_set]
theorem set_nd {ed : PM} {k : Int × Int} {c : Int} (nd : (ed.map (·.1)).Nodup) : ((setC ed k c).map (·.1)).Nodup := by
  unfold setC
  rw [List.map_append]
  refine List.nodup_append.mpr ⟨nd.sublist (List.filter_sublist.map _), by split <;> simp, fun a ha b hb => ?_⟩
  obtain ⟨e, he, rfl⟩ := List.mem_map.mp ha
  have h1 : e.1 ≠ k := by have := (List.mem_filter.mp he).2; simpa using this
  have h2 : b = k := by
    revert hb
    split
    · simp
    · simp
  rw [h2]
  exact h1
theorem set_mem {ed : PM} {k : Int × Int} {c : Int} {e : (Int × Int) × Int} (h : e ∈ setC ed k c) : e ∈ ed ∨ (e = (k, c) ∧ 0 < c) := by
  unfold setC at h
  rcases List.mem_append.mp h with h | h
  · exact .inl (List.mem_filter.mp h).1
  · split at h
    · exact .inr ⟨List.mem_singleton.mp h, by assumption⟩
    · cases h
theorem set_len {ed : PM} {k : Int × Int} {c : Int} : (setC ed k c).length ≤ ed.length + 1 := by
  unfold setC
  rw [List.length_append]
  have h1 : (ed.filter fun e => !decide (e.1 = k)).length ≤ ed.length := List.filter_sublist.length_le
  have h2 : (if 0 < c then [(k, c)] else ([] : PM)).length ≤ 1 := by split <;> simp
  omega
theorem set_lk {ed : PM} {k : Int × Int} {c : Int} (hc : 0 ≤ c) : (lk (setC ed k c) k).getD 0 = c := by
  cases h : lk (setC ed k c) k with
  | none =>
    have hn := lk_none.mp h
    by_cases z : 0 < c
    · refine absurd ?_ hn
      unfold setC
      rw [if_pos z]
      simp
    · show (0 : Int) = c
      omega
  | some a =>
    show a = c
    rcases set_mem (lk_mem h) with h1 | ⟨h1, _⟩
    · have hm := lk_mem h
      unfold setC at hm
      rcases List.mem_append.mp hm with hm | hm
      · have := (List.mem_filter.mp hm).2
        simp at this
      · split at hm
        · exact (Prod.ext_iff.mp (List.mem_singleton.mp hm)).2
        · cases hm
    · exact (Prod.ext_iff.mp h1).2
theorem less_perm {k : Int × Int} {c f : Int} : ∀ {ed : PM}, (ed.map (·.1)).Nodup → (∀ e ∈ ed, 1 ≤ e.2) → lk ed k = some c → (lessE ed k f).Perm (setC ed k (c - f))
  | [], _, _, h => by cases h
  | e :: ed, nd, pos, h => by
    rw [List.map_cons] at nd
    obtain ⟨n1, n2⟩ := List.nodup_cons.mp nd
    have p1 := pos e List.mem_cons_self
    have p2 : ∀ e ∈ ed, 1 ≤ e.2 := fun e he => pos e (List.mem_cons_of_mem _ he)
    rw [lk_cons] at h
    by_cases z : e.1 = k
    · rw [if_pos z] at h
      have hc : e.2 = c := Option.some.inj h
      have hk : k ∉ ed.map (·.1) := z ▸ n1
      have e1 : lessE ed k f = ed := by
        unfold lessE
        have : (ed.map fun e => (e.1, e.2 - if e.1 = k then f else 0)) = ed := by
          conv => rhs; rw [← List.map_id ed]
          refine List.map_congr_left fun d hd => ?_
          have : d.1 ≠ k := fun q => hk (List.mem_map.mpr ⟨d, hd, q⟩)
          rw [if_neg this, Int.sub_zero]; rfl
        rw [this]
        exact List.filter_eq_self.mpr fun d hd => decide_eq_true (by have := p2 d hd; omega)
      have e2 : lessE (e :: ed) k f = (if 0 < c - f then [(k, c - f)] else []) ++ ed := by
        have : lessE (e :: ed) k f = ([(e.1, e.2 - if e.1 = k then f else 0)].filter fun e => decide (0 < e.2)) ++ lessE ed k f := by
          unfold lessE
          rw [List.map_cons, ← List.filter_append]; rfl
        rw [this, e1, if_pos z, hc, z]
        congr 1
        by_cases q : 0 < c - f
        · rw [if_pos q, List.filter_cons_of_pos (by simpa using q)]; rfl
        · rw [if_neg q, List.filter_cons_of_neg (by simpa using q)]; rfl
      rw [e2]
      unfold setC
      rw [List.filter_cons_of_neg (by simp [z]), filter_ne hk]
      exact List.perm_append_comm
    · rw [if_neg z] at h
      have ih := less_perm (f := f) n2 p2 h
      have e2 : lessE (e :: ed) k f = e :: lessE ed k f := by
        unfold lessE
        rw [List.map_cons, if_neg z, Int.sub_zero, List.filter_cons_of_pos (by simp; omega)]
      have e3 : setC (e :: ed) k (c - f) = e :: setC ed k (c - f) := by
        unfold setC
        rw [List.filter_cons_of_pos (by simp [z])]; rfl
      rw [e2, e3]
      exact ih.cons e
theorem self_perm {k : Int × Int} {c : Int} {ed : PM} (nd : (ed.map (·.1)).Nodup) (pos : ∀ e ∈ ed, 1 ≤ e.2) (h : lk ed k = some c) : ed.Perm (setC ed k c) := by
  have h1 := less_perm (f := 0) nd pos h
  rw [Int.sub_zero] at h1
  have e1 : lessE ed k 0 = ed := by
    unfold lessE
    have : (ed.map fun e => (e.1, e.2 - if e.1 = k then 0 else 0)) = ed := by
      conv => rhs; rw [← List.map_id ed]
      refine List.map_congr_left fun d hd => ?_
      rw [show (if d.1 = k then (0 : Int) else 0) = 0 by split <;> rfl, Int.sub_zero]; rfl
    rw [this]
    exact List.filter_eq_self.mpr fun d hd => decide_eq_true (by have := pos d hd; omega)
  rw [e1] at h1
  exact h1
theorem cn_congr {x y : Lw} (hn : x.ns = y.ns) (ht : x.ts = y.ts) (hd : x.dir = y.dir) (he : x.ed.Perm y.ed) : x.cn = y.cn := by
  unfold Lw.cn Lw.es
  rw [hn, ht, hd, sortE_congr (he.map fun e => (e.1.1, e.1.2, e.2))]
theorem lw_pos {x : Lw} (ok : LwOk x) : ∀ e ∈ x.ed, 1 ≤ e.2 := fun e he => ok.1.edges.pos (e.1.1, e.1.2, e.2) (List.mem_map.mpr ⟨e, he, rfl⟩)
theorem cn_self {x : Lw} (ok : LwOk x) {k : Int × Int} {c : Int} (h : lk x.ed k = some c) : x.cn = (x.put k c).cn := cn_congr rfl rfl rfl (self_perm (ed_nd ok) (lw_pos ok) h)
theorem cn_fall {x : Lw} (ok : LwOk x) {k : Int × Int} {c : Int} (h : lk x.ed k = some c) (f : Int) : (x.fall k f).cn = (x.put k (c - f)).cn := cn_congr rfl rfl rfl (less_perm (ed_nd ok) (lw_pos ok) h)
structure KeyOk (x : Lw) (k : Int × Int) : Prop where
  a : k.1 ∈ x.ns
  b : k.2 ∈ x.ns
  ne : k.1 ≠ k.2
  up : x.dir = false → k.1 < k.2
theorem key_of {x : Lw} (ok : LwOk x) {k : Int × Int} {c : Int} (h : lk x.ed k = some c) : KeyOk x k := by
  have hm : (k.1, k.2, c) ∈ x.es := List.mem_map.mpr ⟨(k, c), lk_mem h, rfl⟩
  have o := ok.1.edges
  exact ⟨(o.inV _ hm).1, (o.inV _ hm).2, o.ne _ hm, fun d => o.up d _ hm⟩
theorem put_ok {x : Lw} (ok : LwOk x) {k : Int × Int} (hk : KeyOk x k) (hl : x.ed.length ≤ 300) (c : Int) : LwOk (x.put k c) := by
  have o := ok.1
  have hm : ∀ e, e ∈ (x.put k c).es → e ∈ x.es ∨ (e = (k.1, k.2, c) ∧ 0 < c) := fun e he => by
    obtain ⟨d, hd, rfl⟩ := List.mem_map.mp he
    rcases set_mem hd with h | ⟨h, h2⟩
    · exact .inl (List.mem_map.mpr ⟨d, h, rfl⟩)
    · exact .inr ⟨by rw [h], h2⟩
  refine ⟨⟨o.nodes, o.len, ⟨?_, fun e he => ?_, fun e he => ?_, fun d e he => ?_, fun e he => ?_⟩, ?_, o.terms, o.sub, o.many⟩, ok.2⟩
  · show (((setC x.ed k c).map fun e => (e.1.1, e.1.2, e.2)).map fun e => (e.1, e.2.1)).Nodup
    rw [List.map_map]
    exact set_nd (ed_nd ok)
  · rcases hm e he with h | ⟨h, _⟩
    · exact o.edges.inV e h
    · rw [h]; exact ⟨hk.a, hk.b⟩
  · rcases hm e he with h | ⟨h, _⟩
    · exact o.edges.ne e h
    · rw [h]; exact hk.ne
  · rcases hm e he with h | ⟨h, _⟩
    · exact o.edges.up d e h
    · rw [h]; exact hk.up d
  · rcases hm e he with h | ⟨h, h2⟩
    · exact o.edges.pos e h
    · rw [h]; show 1 ≤ c; omega
  · show ((setC x.ed k c).map _).length ≤ 400
    rw [List.length_map]
    have := set_len (ed := x.ed) (k := k) (c := c)
    omega
theorem fall_ok {x : Lw} (ok : LwOk x) {k : Int × Int} {c : Int} (h : lk x.ed k = some c) (hl : x.ed.length ≤ 300) (f : Int) : LwOk (x.fall k f) := by
  have p := put_ok ok (key_of ok h) hl (c - f)
  have e := (less_perm (f := f) (ed_nd ok) (lw_pos ok) h).map fun e => (e.1.1, e.1.2, e.2)
  have o := p.1
  exact ⟨⟨o.nodes, o.len, ⟨(e.map fun e => (e.1, e.2.1)).nodup_iff.mpr o.edges.nd, fun d m => o.edges.inV d (e.mem_iff.mp m), fun d m => o.edges.ne d (e.mem_iff.mp m), fun h d m => o.edges.up h d (e.mem_iff.mp m), fun d m => o.edges.pos d (e.mem_iff.mp m)⟩, Nat.le_trans (Nat.le_of_eq e.length_eq) o.elen, o.terms, o.sub, o.many⟩, p.2⟩
/-! ### changing a network -/
theorem key_eq {x : Lw} {k : Int × Int} (hk : KeyOk x k) {u v : Int} (h : (u, v) = k ∨ (x.dir = false ∧ (u, v) = (k.2, k.1))) : keyE x.dir u v = k := by
  unfold keyE
  rcases h with h | ⟨hd, h⟩
  · subst h
    cases hd : x.dir with
    | true => rfl
    | false =>
      have := hk.up hd
      rw [if_pos (by rw [decide_eq_true this]; rfl)]
  · cases h
    have := hk.up hd
    rw [hd, if_neg (by rw [decide_eq_false (by omega)]; simp)]
theorem with_put {x : Lw} {k : Int × Int} (hk : KeyOk x k) {u v : Int} (h : (u, v) = k ∨ (x.dir = false ∧ (u, v) = (k.2, k.1))) {c : Int} : withCap x.cn u v c = (x.put k c).cn := by
  unfold withCap
  show (⟨x.ns, sortE (putE x.dir (sortE x.es) u v c), x.ts, x.dir⟩ : Nw) = ⟨x.ns, sortE (x.put k c).es, x.ts, x.dir⟩
  congr 1
  refine sortE_congr ?_
  unfold putE
  rw [key_eq hk h]
  have e1 : (x.put k c).es = (x.es.filter fun e => !decide ([e.1, e.2.1] = [k.1, k.2])) ++ if 0 < c then [(k.1, k.2, c)] else [] := by
    unfold Lw.put Lw.es setC
    rw [List.map_append, List.filter_map]
    congr 1
    · congr 1
      refine List.filter_congr fun e _ => ?_
      show (!decide (e.1 = k)) = !decide ([e.1.1, e.1.2] = [k.1, k.2])
      congr 1
      refine decide_eq_decide.mpr ⟨fun h => by rw [h], fun h => ?_⟩
      simp only [List.cons.injEq, and_true] at h
      exact Prod.ext h.1 h.2
    · split <;> rfl
  rw [e1]
  exact ((sortE_perm x.es).filter _).append_right _
theorem cap_put {x : Lw} (ok : LwOk x) {k : Int × Int} {c : Int} (hc : 0 ≤ c) : capE (x.put k c).cn.es k = c := by
  have nd : ((setC x.ed k c).map (·.1)).Nodup := set_nd (ed_nd ok)
  unfold capE gt
  have hp : ((x.put k c).cn.es.map fun e => ((e.1, e.2.1), e.2.2)).Perm (setC x.ed k c) := by
    have h1 := (sortE_perm (x.put k c).es).map fun e : Int × Int × Int => ((e.1, e.2.1), e.2.2)
    have h2 : ((x.put k c).es.map fun e => ((e.1, e.2.1), e.2.2)) = setC x.ed k c := by
      show (((setC x.ed k c).map fun e => (e.1.1, e.1.2, e.2)).map _) = _
      rw [List.map_map]
      exact List.map_id _
    rw [h2] at h1
    exact h1
  have nd2 := (hp.map (·.1)).nodup_iff.mpr nd
  have e : lk ((x.put k c).cn.es.map fun e => ((e.1, e.2.1), e.2.2)) k = lk (setC x.ed k c) k := by
    cases h : lk (setC x.ed k c) k with
    | none =>
      refine lk_none.mpr fun hm => lk_none.mp h ((hp.map (·.1)).mem_iff.mp hm)
    | some a => exact lk_of_mem nd2 (hp.mem_iff.mpr (lk_mem h))
  show (lk _ k).getD 0 = c
  rw [e]
  exact set_lk hc
/-! ### the values -/
theorem cut_put {x : Lw} {k : Int × Int} {c : Int} (hc : 0 ≤ c) (p : Int → Bool) : cOf (x.put k c).cn p = cutp x.dir ((x.ed.filter fun e => !decide (e.1 = k)).map fun e => (e.1.1, e.1.2, e.2)) p + if sepP x.dir k.1 k.2 p = true then c else 0 := by
  show cutp x.dir (sortE (x.put k c).es) p = _
  rw [cutp_perm (sortE_perm _)]
  show cutp x.dir ((setC x.ed k c).map fun e => (e.1.1, e.1.2, e.2)) p = _
  unfold setC
  by_cases h : 0 < c
  · rw [if_pos h, List.map_append]
    exact cutp_snoc (e := (k.1, k.2, c))
  · rw [if_neg h, List.append_nil]
    have : c = 0 := by omega
    rw [this]
    simp
theorem sep_rev {dir : Bool} {u v : Int} {k : Int × Int} (h : (u, v) = k ∨ (dir = false ∧ (u, v) = (k.2, k.1))) (p : Int → Bool) : sepP dir u v p = sepP dir k.1 k.2 p := by
  rcases h with h | ⟨hd, h⟩
  · rw [← h]
  · cases h
    unfold sepP
    rw [hd]
    simp [Bool.or_comm]
section
variable {x : Lw} (ok : LwOk x) {k : Int × Int} (hk : KeyOk x k) (hl : x.ed.length ≤ 300) {u v : Int} (huv : (u, v) = k ∨ (x.dir = false ∧ (u, v) = (k.2, k.1))) {s : List Int}
include ok hk hl huv
theorem a_put {c d : Int} (hc : 0 ≤ c) (hd : 0 ≤ d) : aO (x.put k d).cn s u v = (aO (x.put k c).cn s u v).map (· - (c - d)) := by
  have okc := cn_ok (put_ok ok hk hl c)
  refine oMin_eq (IsO.shift (f := c - d) (oMin_ok (S := fun p => Agree x.ts s p ∧ sepP x.dir u v p = true) (c := cOf (x.put k c).cn) fun p _ => cOf_nn okc p) fun p hp => ?_)
  rw [cut_put hc, cut_put hd, ← sep_rev huv, if_pos (show sepP x.dir u v p = true from hp.2), if_pos (show sepP x.dir u v p = true from hp.2)]
  omega
theorem b_put {c d : Int} (hc : 0 ≤ c) (hd : 0 ≤ d) : bO (x.put k d).cn s u v = bO (x.put k c).cn s u v := by
  have okc := cn_ok (put_ok ok hk hl c)
  refine oMin_eq (IsO.congr (oMin_ok (S := fun p => Agree x.ts s p ∧ sepP x.dir u v p = false) (c := cOf (x.put k c).cn) fun p _ => cOf_nn okc p) (fun p => Iff.rfl) fun p hp => ?_)
  rw [cut_put hc, cut_put hd, ← sep_rev huv, show sepP x.dir u v p = false from hp.2]
  rfl
end
theorem v_lo {y : Nw} (ok : NwOk y) {s : List Int} (hs : PartOk y.ts s) (u v : Int) : lo2 (aO y s u v) (bO y s u v) = some (vOf y s) := by
  have h1 := IsO.or (oMin_ok (S := fun p => Agree y.ts s p ∧ sepP y.dir u v p = true) (c := cOf y) fun p _ => cOf_nn ok p) (oMin_ok (S := fun p => Agree y.ts s p ∧ sepP y.dir u v p = false) (c := cOf y) fun p _ => cOf_nn ok p)
  have h2 : IsO (Parts y.ns s (less y.ts s)) (cOf y) (lo2 (aO y s u v) (bO y s u v)) := h1.congr (fun p => by
    rw [parts_agree ok hs.sub]
    cases sepP y.dir u v p <;> simp) fun _ _ => rfl
  cases h : lo2 (aO y s u v) (bO y s u v) with
  | none =>
    rw [h] at h2
    refine absurd ((parts_agree ok hs.sub).mpr fun t _ => rfl) (h2 fun t => decide (t ∈ s))
  | some m =>
    rw [h] at h2
    rw [vOf_eq h2.min]
theorem v_cn {x : Lw} (s : List Int) : vOf x.cn s = vOf x.nw s := by
  unfold vOf
  have e : cutp x.cn.dir x.cn.es = cutp x.nw.dir x.nw.es := by
    funext p
    exact cutp_perm (sortE_perm x.es)
  rw [e]; rfl
/-! ### sums of the least values -/
section
variable {a b : Option Int} {v w : Int}
theorem f_loss {f : Int} (hf : 0 ≤ f) (hv : lo2 a b = some v) (hw : lo2 (a.map (· - f)) b = some w) : lossV (a.map (· - v)) f = v - w := by
  cases a with
  | none =>
    have e1 : b = some v := hv
    have e2 : b = some w := hw
    rw [e1] at e2
    cases e2
    show (0 : Int) = v - v
    omega
  | some a =>
    cases b with
    | none =>
      have e1 : a = v := Option.some.inj hv
      have e2 : a - f = w := Option.some.inj hw
      subst e1 e2
      show (if f - (a - a) > 0 then f - (a - a) else 0) = a - (a - f)
      split <;> omega
    | some b =>
      have e1 : (if b < a then b else a) = v := Option.some.inj hv
      have e2 : (if b < a - f then b else a - f) = w := Option.some.inj hw
      show (if f - (a - v) > 0 then f - (a - v) else 0) = v - w
      revert e1 e2
      split <;> split <;> split <;> omega
theorem f_rise {f : Int} (hf : 0 ≤ f) (hv : lo2 a b = some v) (hw : lo2 (a.map (· - f)) b = some w) : riseV (b.map (· - w)) f = v - w := by
  cases a with
  | none =>
    have e1 : b = some v := hv
    have e2 : b = some w := hw
    rw [e1] at e2
    cases e2
    rw [e1]
    show (if v - v < f then v - v else f) = v - v
    split <;> omega
  | some a =>
    cases b with
    | none =>
      have e1 : a = v := Option.some.inj hv
      have e2 : a - f = w := Option.some.inj hw
      subst e1 e2
      show f = a - (a - f)
      omega
    | some b =>
      have e1 : (if b < a then b else a) = v := Option.some.inj hv
      have e2 : (if b < a - f then b else a - f) = w := Option.some.inj hw
      show (if b - w < f then b - w else f) = v - w
      revert e1 e2
      split <;> split <;> split <;> omega
theorem f_margin {f : Int} (hf : 0 ≤ f) (hv : lo2 a b = some v) (hw : lo2 (a.map (· - f)) b = some w) : (a.map (· - f)).map (· - w) = (a.map (· - v)).map fun m => if m - f > 0 then m - f else 0 := by
  cases a with
  | none => rfl
  | some a =>
    cases b with
    | none =>
      have e1 : a = v := Option.some.inj hv
      have e2 : a - f = w := Option.some.inj hw
      subst e1 e2
      show some (a - f - (a - f)) = some (if a - a - f > 0 then a - a - f else 0)
      congr 1
      split <;> omega
    | some b =>
      have e1 : (if b < a then b else a) = v := Option.some.inj hv
      have e2 : (if b < a - f then b else a - f) = w := Option.some.inj hw
      show some (a - f - w) = some (if a - v - f > 0 then a - v - f else 0)
      congr 1
      revert e1 e2
      split <;> split <;> split <;> omega
theorem f_room {w : Int} : b.map (· - w) = (b.map (· - v)).map (· + (v - w)) := by
  cases b with
  | none => rfl
  | some b =>
    show some (b - w) = some (b - v + (v - w))
    congr 1
    omega
theorem f_two {f m : Int} (hf : 0 ≤ f) (hm : 0 ≤ m) (hv : lo2 a b = some v) (hw : lo2 (a.map (· - f)) b = some w) : lossV (a.map (· - v)) (f + m) = v - w + lossV ((a.map (· - f)).map (· - w)) m := by
  cases a with
  | none =>
    have e1 : b = some v := hv
    have e2 : b = some w := hw
    rw [e1] at e2
    cases e2
    show (0 : Int) = v - v + 0
    omega
  | some a =>
    cases b with
    | none =>
      have e1 : a = v := Option.some.inj hv
      have e2 : a - f = w := Option.some.inj hw
      subst e1 e2
      show (if f + m - (a - a) > 0 then f + m - (a - a) else 0) = a - (a - f) + (if m - (a - f - (a - f)) > 0 then m - (a - f - (a - f)) else 0)
      split <;> split <;> omega
    | some b =>
      have e1 : (if b < a then b else a) = v := Option.some.inj hv
      have e2 : (if b < a - f then b else a - f) = w := Option.some.inj hw
      show (if f + m - (a - v) > 0 then f + m - (a - v) else 0) = v - w + (if m - (a - f - w) > 0 then m - (a - f - w) else 0)
      revert e1 e2
      split <;> split <;> split <;> split <;> omega
theorem f_crit (hv : lo2 a b = some v) (hw : lo2 (a.map (· - 1)) b = some w) : a.map (· - v) = some 0 ↔ w < v := by
  cases a with
  | none =>
    have e1 : b = some v := hv
    have e2 : b = some w := hw
    rw [e1] at e2
    cases e2
    exact ⟨fun h => (by cases h), fun h => absurd h (Int.lt_irrefl _)⟩
  | some a =>
    have e3 : (some a : Option Int).map (· - v) = some (a - v) := rfl
    rw [e3, Option.some.injEq]
    cases b with
    | none =>
      have e1 : a = v := Option.some.inj hv
      have e2 : a - 1 = w := Option.some.inj hw
      subst e1 e2
      exact ⟨fun _ => by omega, fun _ => by omega⟩
    | some b =>
      have e1 : (if b < a then b else a) = v := Option.some.inj hv
      have e2 : (if b < a - 1 then b else a - 1) = w := Option.some.inj hw
      revert e1 e2
      split <;> split <;> intro e1 e2 <;> refine ⟨fun _ => ?_, fun _ => ?_⟩ <;> omega
end
end
end K96
set_option Elab.async false
set_option linter.all false
set_option maxRecDepth 100000
set_option maxHeartbeats 4000000
/-! data alike. Own work. -/
namespace K96
open PySem PySem.Spec L2 Rz Cut
section
variable {P : Program} {w : World} {K : PySem.W.Frag} {mg : Str → Option Value} {base : Heap}
theorem vo_orL {O : Os} {r r' : R2} {Ra Rb R : Rp} (h : VO O r Ra Rb R) : VO O (fun x y H Q => r x y H Q ∨ r' x y H Q) Ra Rb R := fun G H x y hx hy o sb Q q => .inl (h G H x y hx hy o sb Q q)
theorem vo_orR {O : Os} {r r' : R2} {Ra Rb R : Rp} (h : VO O r' Ra Rb R) : VO O (fun x y H Q => r x y H Q ∨ r' x y H Q) Ra Rb R := fun G H x y hx hy o sb Q q => .inr (h G H x y hx hy o sb Q q)
mutual
/-- trees of ints, bools, at most n deep, no list longer than 1000 -/
def Flat : Nat → Da → Prop
  | 0, _ => False
  | _ + 1, .non => False
  | _ + 1, .bl _ => True
  | _ + 1, .int _ => True
  | n + 1, .tup ds => ds.length ≤ 1000 ∧ Flats n ds
  | n + 1, .lst ds => ds.length ≤ 1000 ∧ Flats n ds
def Flats : Nat → List Da → Prop
  | _, [] => True
  | n, d :: ds => Flat n d ∧ Flats n ds
end
theorem flats_mem {n : Nat} : ∀ {ds : List Da}, Flats n ds → ∀ d ∈ ds, Flat n d
  | d :: ds, h, e, he => by
    unfold Flats at h
    rcases List.mem_cons.mp he with z | z
    · rw [z]; exact h.1
    · exact flats_mem h.2 e z
theorem rps_map : ∀ ds : List Da, Da.rps ds = ds.map Da.rp
  | [] => by simp [Da.rps]
  | d :: ds => by rw [Da.rps, rps_map ds]; rfl
theorem flats_ints (n : Nat) : ∀ ns : List Int, Flats (n + 1) (daI ns)
  | [] => by unfold daI; simp [Flats]
  | k :: ns => by
    have ih := flats_ints n ns
    unfold daI at ih ⊢
    rw [List.map_cons]
    unfold Flats
    exact ⟨by unfold Flat; trivial, ih⟩
theorem flat_tup {n : Nat} {ns : List Int} (h : ns.length ≤ 1000) : Flat (n + 2) (.tup (daI ns)) := by
  unfold Flat
  exact ⟨by unfold daI; rw [List.length_map]; exact h, flats_ints n ns⟩
theorem flat_int {n : Nat} {i : Int} : Flat (n + 1) (.int i) := by unfold Flat; trivial
theorem flat_bl {n : Nat} {b : Bool} : Flat (n + 1) (.bl b) := by unfold Flat; trivial
theorem flats_all {n : Nat} : ∀ {ds : List Da}, (∀ d ∈ ds, Flat n d) → Flats n ds
  | [], _ => by simp [Flats]
  | d :: ds, h => by
    unfold Flats
    exact ⟨h d List.mem_cons_self, flats_all fun e he => h e (List.mem_cons_of_mem _ he)⟩
abbrev spSame (n : Nat) : Sp := Prm (fun d : Da => [d.rp, d.rp]) (fun _ => []) (Flat n) (fun _ => rBl true)
theorem nn_bl {b : Bool} : ∀ v G, (rBl b).p v G → v ≠ .non := fun v G h e => by
  have h : v = .bl b := h
  rw [h] at e; cases e
theorem nn_int {i : Int} : ∀ v G, (rInt i).p v G → v ≠ .non := fun v G h e => by
  have h : v = .int i := h
  rw [h] at e; cases e
theorem same_n (T : Tp K mg) : ∀ n, Kal P w K mg base n "_law_same" ["told", "due"] (spSame n)
| 0 => by
    obtain ⟨⟨fd, F⟩, hm⟩ := T.at_ 52 "_law_same" 76
    have no : ∀ d, ¬ Flat 0 d := fun d h => by unfold Flat at h; exact h
    exact kal_of F hm ⟨fun vs H Q E ⟨d, G, hp, _⟩ => absurd hp (no d), fun A outer s H args us vs Q E _ _ _ _ ⟨d, G, hp, _⟩ => absurd hp (no d)⟩ (fun _ _ _ _ _ _ us hl => match us, hl with | [_, _], _ => rfl)
| n + 1 => by
  have c__law_same := same_n T n
  obtain ⟨⟨fd, F⟩, hm⟩ := T.at_ 52 "_law_same" 76
  have sc : FnScope ["told", "due", "k"] ["told", "due"] (defScope (top 76)) := ⟨rfl, rfl, rfl, by decide +kernel, rfl, by decide +kernel, by decide +kernel⟩
  refine kal_of F hm (fn_prm F sc (fun _ => rfl) (fun _ => by first | exact List.nodup_nil | exact nd_fl | simp) fun cdv A outer s H E hr => ?_) (fun _ _ _ _ _ _ us hl => match us, hl with | [_, _], _ => rfl)
  refine ⟨_, (pss_cons (ps_if (PW.pt (pw_or (pt_cmp (pc_isN (pv 1)) rfl) (pw_or1 (pt_val (pe_callB call_isi (by rfl) T.isinstance boot_isi (pa_cons (pv 1) (pa_cons (pe_ty (by rfl) T.bool boot_bool) pa_nil))))))) (pss_one (ps_ret (pe_ifExp (pt_cmp (pc_isN (pv 1)) rfl) (pe_cmp (pc_isN (pv 0)) rfl) (pe_and (pe_callB call_isi (by rfl) T.isinstance boot_isi (pa_cons (pv 0) (pa_cons (pe_ty (by rfl) T.bool boot_bool) pa_nil))) (pe_one (pe_cmpR op_eq (pe_cmpR op_isBl (pv 0) pe_bl (nomark _)) (pe_cmpR op_isBl (pv 1) pe_bl (nomark _)) (nomark _))))))) pss_nil)
      (pss_cons (ps_if (pt_val (pe_callB call_isi (by rfl) T.isinstance boot_isi (pa_cons (pv 1) (pa_cons (pe_ty (by rfl) T.int boot_int) pa_nil)))) (pss_one (ps_ret (pe_and (pe_callB call_isi (by rfl) T.isinstance boot_isi (pa_cons (pv 0) (pa_cons (pe_ty (by rfl) T.int boot_int) pa_nil))) (pe_and (pe_not (pe_callB call_isi (by rfl) T.isinstance boot_isi (pa_cons (pv 0) (pa_cons (pe_ty (by rfl) T.bool boot_bool) pa_nil)))) (pe_one (pe_cmpR op_eq (pe_op op_sub (pe_callTy call_int1 (by rfl) T.int boot_int (pa_cons (pv 0) pa_nil)) (pv 1)) pe_int (nomark _))))))) pss_nil)
      (pss_cons (ps_if (pt_val (pe_callB call_isi (by rfl) T.isinstance boot_isi (pa_cons (pv 1) (pa_cons (pe_ty (by rfl) T.str boot_str) pa_nil)))) (pss_one (ps_ret (pe_and (pe_callB call_isi (by rfl) T.isinstance boot_isi (pa_cons (pv 0) (pa_cons (pe_ty (by rfl) T.str boot_str) pa_nil))) (pe_and (pe_cmpR op_eq (pe_callB call_len_seq (by rfl) T.len PySem.boot_len (pa_cons (pv 0) pa_nil)) (pe_callB call_len_seq (by rfl) T.len PySem.boot_len (pa_cons (pv 1) pa_nil)) (nomark _)) (pe_one (pe_cmpR op_eq (pe_lc (own := [("k", 2)]) (by rfl) sc.nd (pi_range1 (by rfl) T.range (pa_cons (pe_callB call_len_seq (by rfl) T.len PySem.boot_len (pa_cons (pv 1) pa_nil)) pa_nil)) (blkOk_by (by kernel_rfl)) (fun _ _ _ _ _ => (pg_name (i := 2) sc.nd rfl (Or.inl rfl))) (fun _ _ _ _ _ => (pts_one (pt_cmpR op_ne (pe_slice (sl_listK K) (pv 0) (po_some (pv 2)) (po_some (pe_op op_add (pv 2) pe_int))) (pe_ix ((ix_tupK K).or (ix_lstK K)) (pv 1) (pv 2) (fun _ _ => rfl)) (nomark _)))) (fun _ _ _ _ _ => (pv 2))) (pe_lst pa_nil) (nomark _))))))) pss_nil)
      (pss_cons (ps_if (PW.pt (pw_or (pt_cmpR op_ne (pe_callB call_isi (by rfl) T.isinstance boot_isi (pa_cons (pv 0) (pa_cons (pe_ty (by rfl) T.list boot_lst) pa_nil))) (pe_callB call_isi (by rfl) T.isinstance boot_isi (pa_cons (pv 1) (pa_cons (pe_ty (by rfl) T.list boot_lst) pa_nil))) (nomark _)) (pw_or1 (pt_cmpR op_ne (pe_callB call_isi (by rfl) T.isinstance boot_isi (pa_cons (pv 0) (pa_cons (pe_ty (by rfl) T.tuple boot_tup) pa_nil))) (pe_callB call_isi (by rfl) T.isinstance boot_isi (pa_cons (pv 1) (pa_cons (pe_ty (by rfl) T.tuple boot_tup) pa_nil))) (nomark _))))) (pss_one (ps_ret pe_bl)) pss_nil)
      (pss_one (ps_ret (pe_and (pe_cmpR op_eq (pe_callB call_len_seq (by rfl) T.len PySem.boot_len (pa_cons (pv 0) pa_nil)) (pe_callB call_len_seq (by rfl) T.len PySem.boot_len (pa_cons (pv 1) pa_nil)) (nomark _)) (pe_one (pe_cmpR (op_eqD hr.units) (pe_lc (own := [("k", 2)]) (by rfl) sc.nd (pi_range1 (by rfl) T.range (pa_cons (pe_callB call_len_seq (by rfl) T.len PySem.boot_len (pa_cons (pv 1) pa_nil)) pa_nil)) (blkOk_by (by kernel_rfl)) (fun _ _ _ _ _ => (pg_name (i := 2) sc.nd rfl (Or.inl rfl))) (fun _ _ _ _ _ => (pts_one (pt_not (pt_val (pe_k c__law_same hr (Nat.le_refl _) (by rfl) (pa_cons (pe_ix ((ix_tupK K).or (ix_lstK K)) (pv 0) (pv 2) (fun _ _ => rfl)) (pa_cons (pe_ix ((ix_tupK K).or (ix_lstK K)) (pv 1) (pv 2) (fun _ _ => rfl)) pa_nil))))))) (fun _ _ _ _ _ => (pv 2))) (pe_lst pa_nil) (nomark _)))))))))), fun d hp => ?_⟩
  cases d with
  | non => unfold Flat at hp; exact hp.elim
  | bl b =>
    simp only [Da.rp]
    refine hs_ifRet (c := true) (EvB.to (eb_or (eb_b (ev_isN (ev_var rfl))) fun _ => eb_b (ev_cb (ea_cons (ev_var rfl) (ea_cons ev_c ea_nil)) (vc_isi ty_bl rfl))) rfl) (fun _ => ?_) (fun h => by cases h)
    refine ht_ret (ev_if (b := false) (EvB.to (eb_b (ev_isN (ev_var rfl))) rfl) (fun h => by cases h) fun _ => EvT.to (ev_and (a := true) (ev_cb (ea_cons (ev_var rfl) (ea_cons ev_c ea_nil)) (vc_isi ty_bl rfl)) fun _ => ev_op (ev_op (ev_var rfl) ev_c vo_isB) (ev_op (ev_var rfl) ev_c vo_isB) (vo_eq rfl)) (R' := rBl true) (by cases b <;> rfl)) rfl
  | int i =>
    simp only [Da.rp]
    refine hs_ifNo (EvB.to (eb_or (eb_b (ev_isN (ev_var rfl))) fun _ => eb_b (ev_cb (ea_cons (ev_var rfl) (ea_cons ev_c ea_nil)) (vc_isi ty_int rfl))) rfl) ?_
    refine hs_ifRet (c := true) (EvB.to (eb_b (ev_cb (ea_cons (ev_var rfl) (ea_cons ev_c ea_nil)) (vc_isi ty_int rfl))) rfl) (fun _ => ?_) (fun h => by cases h)
    refine ht_ret (ev_and (ev_cb (ea_cons (ev_var rfl) (ea_cons ev_c ea_nil)) (vc_isi ty_int rfl)) fun _ => ev_and (ev_not (ev_cb (ea_cons (ev_var rfl) (ea_cons ev_c ea_nil)) (vc_isi ty_int rfl))) fun _ => ev_op (ev_op (ev_cb (ea_cons (ev_var rfl) ea_nil) vc_int) (ev_var rfl) vo_I0) ev_c vo_eqI) ?_
    show rBl _ = rBl true
    rw [decide_eq_true (Int.sub_self i)]; rfl
  | tup ds =>
    unfold Flat at hp
    simp only [Da.rp]
    rw [rps_map]
    obtain ⟨hl, hf⟩ := hp
    have isi : ∀ {t : Tys} {i : Nat} {m : String} {b : Bool}, t[i]? = some (some (rTup (ds.map Da.rp))) → kitB "tuple" m = some b → EvT t [] (tCB (rIsi K) (tCons (tVar i) (tCons (tC (.ty m)) tNil))) (rBl b) := fun h hb => ev_cb (ea_cons (ev_var h) (ea_cons ev_c ea_nil)) (vc_isi ty_tup hb)
    refine hs_ifNo (EvB.to (eb_or (eb_b (ev_isNR (ev_var rfl) nn_tup)) fun _ => eb_b (isi rfl rfl)) rfl) ?_
    refine hs_ifNo (EvB.to (eb_b (isi rfl rfl)) rfl) ?_
    refine hs_ifNo (EvB.to (eb_b (isi rfl rfl)) rfl) ?_
    refine hs_ifNo (EvB.to (eb_or (eb_test (ev_op (isi rfl rfl) (isi rfl rfl) (vo_ne rfl))) fun _ => eb_test (ev_op (isi rfl rfl) (isi rfl rfl) (vo_ne rfl))) (by simp)) ?_
    have hlen : (((ds.map Da.rp).length : Nat) : Int).toNat = ds.length := by rw [List.length_map]; rfl
    refine ht_ret (ev_and (a := true) (EvT.to (ev_op (ev_cb (ea_cons (ev_var rfl) ea_nil) vc_lenT) (ev_cb (ea_cons (ev_var rfl) ea_nil) vc_lenT) vo_eqI) (by rw [decide_eq_true rfl])) fun _ => ev_op (EvT.to (R := rLst []) (R' := (Da.lst []).rp) (EvT.to (R' := rLst []) (ev_lc (xs := List.range (((ds.map Da.rp).length : Nat) : Int).toNat) (f := fun (i : Nat) => rInt (0 + (i : Int))) (c := fun _ => false) (r := fun (i : Nat) => rInt (0 + (i : Int))) (src_range1 (ea_cons (ev_cb (ea_cons (ev_var rfl) ea_nil) vc_lenT) ea_nil) (by rw [List.length_map]; omega) (by rw [List.length_map]; omega)) (small (by rw [List.length_range, hlen]; exact hl)) fun i hi => ?_) (by rw [List.filter_eq_nil_iff.mpr fun _ _ h => Bool.noConfusion h]; rfl)) (by simp only [Da.rp, Da.rps])) (EvT.to (R' := (Da.lst []).rp) (ev_lst ea_nil) (by simp [Da.rp, Da.rps])) (vo_eqD rfl rfl)) ?_
    · rw [List.mem_range, hlen] at hi
      have hd : (ds.map Da.rp)[i]? = some (Da.rp ds[i]) := by rw [List.getElem?_map, List.getElem?_eq_getElem hi]; rfl
      refine ⟨_, _, tg_name, by simp, EvB.to (eb_not (eb_b (ev_call ds[i] (ea_cons (ev_op (ev_var rfl) (ev_var rfl) (vo_orL (vo_ixT (j := i) (by omega) hd))) (ea_cons (ev_op (ev_var rfl) (ev_var rfl) (vo_orL (vo_ixT (j := i) (by omega) hd))) ea_nil)) (flats_mem hf _ (List.getElem_mem hi))))) rfl, fun h => by cases h⟩
    · rfl
  | lst ds =>
    unfold Flat at hp
    simp only [Da.rp]
    rw [rps_map]
    obtain ⟨hl, hf⟩ := hp
    have isi : ∀ {t : Tys} {i : Nat} {m : String} {b : Bool}, t[i]? = some (some (rLst (ds.map Da.rp))) → kitB "list" m = some b → EvT t [] (tCB (rIsi K) (tCons (tVar i) (tCons (tC (.ty m)) tNil))) (rBl b) := fun h hb => ev_cb (ea_cons (ev_var h) (ea_cons ev_c ea_nil)) (vc_isi ty_lst hb)
    refine hs_ifNo (EvB.to (eb_or (eb_b (ev_isNR (ev_var rfl) nn_lst)) fun _ => eb_b (isi rfl rfl)) rfl) ?_
    refine hs_ifNo (EvB.to (eb_b (isi rfl rfl)) rfl) ?_
    refine hs_ifNo (EvB.to (eb_b (isi rfl rfl)) rfl) ?_
    refine hs_ifNo (EvB.to (eb_or (eb_test (ev_op (isi rfl rfl) (isi rfl rfl) (vo_ne rfl))) fun _ => eb_test (ev_op (isi rfl rfl) (isi rfl rfl) (vo_ne rfl))) (by simp)) ?_
    have hlen : (((ds.map Da.rp).length : Nat) : Int).toNat = ds.length := by rw [List.length_map]; rfl
    refine ht_ret (ev_and (a := true) (EvT.to (ev_op (ev_cb (ea_cons (ev_var rfl) ea_nil) vc_lenL) (ev_cb (ea_cons (ev_var rfl) ea_nil) vc_lenL) vo_eqI) (by rw [decide_eq_true rfl])) fun _ => ev_op (EvT.to (R := rLst []) (R' := (Da.lst []).rp) (EvT.to (R' := rLst []) (ev_lc (xs := List.range (((ds.map Da.rp).length : Nat) : Int).toNat) (f := fun (i : Nat) => rInt (0 + (i : Int))) (c := fun _ => false) (r := fun (i : Nat) => rInt (0 + (i : Int))) (src_range1 (ea_cons (ev_cb (ea_cons (ev_var rfl) ea_nil) vc_lenL) ea_nil) (by rw [List.length_map]; omega) (by rw [List.length_map]; omega)) (small (by rw [List.length_range, hlen]; exact hl)) fun i hi => ?_) (by rw [List.filter_eq_nil_iff.mpr fun _ _ h => Bool.noConfusion h]; rfl)) (by simp only [Da.rp, Da.rps])) (EvT.to (R' := (Da.lst []).rp) (ev_lst ea_nil) (by simp [Da.rp, Da.rps])) (vo_eqD rfl rfl)) ?_
    · rw [List.mem_range, hlen] at hi
      have hd : (ds.map Da.rp)[i]? = some (Da.rp ds[i]) := by rw [List.getElem?_map, List.getElem?_eq_getElem hi]; rfl
      refine ⟨_, _, tg_name, by simp, EvB.to (eb_not (eb_b (ev_call ds[i] (ea_cons (ev_op (ev_var rfl) (ev_var rfl) (vo_orR (vo_ixL (j := i) (by omega) hd))) (ea_cons (ev_op (ev_var rfl) (ev_var rfl) (vo_orR (vo_ixL (j := i) (by omega) hd))) ea_nil)) (flats_mem hf _ (List.getElem_mem hi))))) rfl, fun h => by cases h⟩
    · rfl
theorem c__law_same (T : Tp K mg) : Kal P w K mg base 12 "_law_same" ["told", "due"] (spSame 12) := same_n T 12
end
end K96
set_option Elab.async false
set_option linter.all false
set_option maxRecDepth 100000
set_option maxHeartbeats 4000000
/-! law k96: what falls, and comes back. Own work. -/
namespace K96
open PySem PySem.Spec L2 Rz Cut
section
variable {P : Program} {w : World} {K : PySem.W.Frag} {mg : Str → Option Value} {base : Heap}
/-- the law's pairs in the order of their keys -/
noncomputable def ordE (ed : PM) : PM := Classical.epsilon fun l => l.Perm ed ∧ lexOf (keysL ed) = keysL l
theorem ord_ok (ed : PM) : (ordE ed).Perm ed ∧ lexOf (keysL ed) = keysL (ordE ed) := by
  refine Classical.epsilon_spec (p := fun l : PM => l.Perm ed ∧ lexOf (keysL ed) = keysL l) ?_
  obtain ⟨m, hm⟩ := lex_exists (keysL ed)
  obtain ⟨l, h1, h2⟩ := perm_map_inv hm.1 ed rfl
  exact ⟨l, h1, (lexOf_eq hm).trans h2⟩
theorem ev_ord {t : Tys} {O : Os} {te : TE} {R0 : Rp} {ed : PM} (h : EvT t O te R0) (d : DT O R0 (mP fI ed)) : EvT t O (tCB rSortedDT (tCons te tNil)) (rLst ((ordE ed).map fun e => rKT (kP e.1))) := EvT.to (ev_keys h d) (by rw [(ord_ok ed).2]; unfold keysL; rw [List.map_map]; rfl)
structure PreFl (y : (Lw × Addr) × List Int × ((Int × Int) × Int) × Bool) : Prop where
  ok : LwOk y.1.1
  len : y.1.1.ed.length ≤ 100
  part : PartOk y.1.1.ts y.2.1
  key : lk y.1.1.ed y.2.2.1.1 = some y.2.2.1.2
  cap : y.2.2.1.2 ≤ 1000
noncomputable abbrev spFall (K : PySem.W.Frag) : Sp := PrmM (fun (y : (Lw × Addr) × List Int × ((Int × Int) × Int) × Bool) p => [rRef p, rLn y.1.1 y.1.2, rNet K y.1.1.cn, rTI y.2.1, rTI [y.2.2.1.1.1, y.2.2.1.1.2], rBl y.2.2.2]) (fun _ => boxC) (fun y => oLn y.1.1 y.1.2) PreFl (fun _ c => c = boxC) (fun _ => rBl true)
theorem ok__law_fall_right (T : Tp K mg) {fd : FuncData} (F : FunD K "_law_fall_right" "_law_fall_right" (defArgs (top 86)) (defBody (top 86)) (defScope (top 86)) [] [] (He.ga K "_law_fall_right") fd) : FnOk P w K mg base CX0 13 (He.ga K "_law_fall_right") fd ["box", "net", "network", "some", "pair", "by_name"] (spFall K) := by
  have sc : FnScope ["box", "net", "network", "some", "pair", "by_name", "full", "fewer", "u", "v", "small", "due", "told", "fallen", "before", "behind", "more", "last", "back", "one"] ["box", "net", "network", "some", "pair", "by_name"] (defScope (top 86)) := ⟨rfl, rfl, rfl, by decide +kernel, rfl, by decide +kernel, by decide +kernel⟩
  have c__law_take := c__law_take (P := P) (w := w) (base := base) T
  have c__law_ends := c__law_ends (P := P) (w := w) (base := base) T
  have c__law_less := c__law_less (P := P) (w := w) (base := base) T
  have c__law_cut := c__law_cut (P := P) (w := w) (base := base) T
  have c_loss := c_loss (P := P) (w := w) (base := base) T
  have c__law_same := c__law_same (P := P) (w := w) (base := base) T
  have c_with_capacity := c_with_capacity (P := P) (w := w) (base := base) T
  have c_Network4 := c_Network4 (P := P) (w := w) (base := base) T
  have c_cut_value := c_cut_value (P := P) (w := w) (base := base) T
  have c_rise := c_rise (P := P) (w := w) (base := base) T
  have c_margin := c_margin (P := P) (w := w) (base := base) T
  have c_room := c_room (P := P) (w := w) (base := base) T
  have kw_with_capacity_1_v_u_capacity := kw_with_capacity_1_v_u_capacity (P := P) (w := w) (base := base) T
  have kw_loss_0_fewer_v_u_some_network := kw_loss_0_fewer_v_u_some_network (P := P) (w := w) (base := base) T
  have kw_margin_0_v_u_some_network := kw_margin_0_v_u_some_network (P := P) (w := w) (base := base) T
  have kw_room_0_v_u_some_network := kw_room_0_v_u_some_network (P := P) (w := w) (base := base) T
  refine fn_prmM F sc (fun _ _ => rfl) (fun _ => rfl) fun cdv A outer s H E hr => ?_
  have hu := hu_of hr
  refine ⟨_, (pss_cons (ps_set (i := 6) sc.nd rfl (Or.inl rfl) (pe_dget hu (pe_ix ix_list (pv 1) pe_int (fun _ _ => rfl)) (pv 4) (fun _ _ => rfl)))
      (pss_cons (ps_set (i := 7) sc.nd rfl (Or.inl rfl) (pe_k c__law_take hr (by decide) (by rfl) (pa_cons (pv 0) (pa_cons (pe_op op_add (pv 6) pe_int) pa_nil))))
      (pss_cons (ps_asg (pe_k c__law_ends hr (by decide) (by rfl) (pa_cons (pv 0) (pa_cons (pv 1) (pa_cons (pv 4) pa_nil)))) (pg_tup (n := 2) (by rfl) (pgs_cons (pg_name (i := 8) sc.nd rfl (Or.inl rfl)) (pgs_cons (pg_name (i := 9) sc.nd rfl (Or.inl rfl)) pgs_nil))))
      (pss_cons (ps_set (i := 10) sc.nd rfl (Or.inr rfl) (pe_k c__law_less hr (by decide) (by rfl) (pa_cons (pv 1) (pa_cons (pv 4) (pa_cons (pv 7) pa_nil)))))
      (pss_cons (ps_set (i := 11) sc.nd rfl (Or.inl rfl) (pe_op op_sub (pe_k c__law_cut hr (by decide) (by rfl) (pa_cons (pv 1) (pa_cons (pv 3) pa_nil))) (pe_k c__law_cut hr (by decide) (by rfl) (pa_cons (pv 10) (pa_cons (pv 3) pa_nil)))))
      (pss_cons (ps_set (i := 12) sc.nd rfl (Or.inl rfl) (pe_ifExp (pt_val (pv 5)) (pe_kk0 kw_loss_0_fewer_v_u_some_network hr (by decide) (by rfl) (pk_cons (pv 7) (pk_cons (pv 9) (pk_cons (pv 8) (pk_cons (pv 3) (pk_cons (pv 2) pk_nil)))))) (pe_k c_loss hr (by decide) (by rfl) (pa_cons (pv 2) (pa_cons (pv 3) (pa_cons (pv 8) (pa_cons (pv 9) (pa_cons (pv 7) pa_nil))))))))
      (pss_cons (ps_if (pt_not (pt_val (pe_k c__law_same hr (by decide) (by rfl) (pa_cons (pv 12) (pa_cons (pv 11) pa_nil))))) (pss_one (ps_ret pe_bl)) pss_nil)
      (pss_cons (ps_set (i := 13) sc.nd rfl (Or.inl rfl) (pe_k c_with_capacity hr (by decide) (by rfl) (pa_cons (pv 2) (pa_cons (pv 8) (pa_cons (pv 9) (pa_cons (pe_op op_sub (pv 6) (pv 7)) pa_nil))))))
      (pss_cons (ps_if (pt_not (pt_cmpR (op_eqNet T (hr.mono (by decide))) (pv 13) (C8.pe_mk c_Network4 hr (by decide) (by rfl) (pa_cons (pe_ix ix_list (pv 1) pe_int (fun _ _ => rfl)) (pa_cons (pe_lc (own := [("one", 19)]) (by rfl) sc.nd (pi_list (pe_callB (cr_sortedDT (by rfl)) (by rfl) T.sorted boot_sorted (pa_cons (pe_ix ix_list (pv 10) pe_int (fun _ _ => rfl)) pa_nil))) (blkOk_by (by kernel_rfl)) (fun _ _ _ _ _ => (pg_name (i := 19) sc.nd rfl (Or.inl rfl))) (fun _ _ _ _ _ => pts_nil) (fun _ _ _ _ _ => (pe_op (op_catAK K) (pv 19) (pe_tup (pa_cons (pe_dget hu (pe_ix (ix_lstK K) (pv 10) pe_int (fun _ _ => rfl)) (pv 19) (fun _ _ => rfl)) pa_nil))))) (pa_cons (pe_ix ix_list (pv 1) pe_int (fun _ _ => rfl)) (pa_cons (pe_ix ix_list (pv 1) pe_int (fun _ _ => rfl)) pa_nil))))) (nomark _))) (pss_one (ps_ret pe_bl)) pss_nil)
      (pss_cons (ps_if (pt_not (pt_val (pe_k c__law_same hr (by decide) (by rfl) (pa_cons (pe_lst (pa_cons (pe_k c_cut_value hr (by decide) (by rfl) (pa_cons (pv 13) (pa_cons (pv 3) pa_nil))) (pa_cons (pe_k c_rise hr (by decide) (by rfl) (pa_cons (pv 13) (pa_cons (pv 3) (pa_cons (pv 8) (pa_cons (pv 9) (pa_cons (pv 7) pa_nil)))))) pa_nil))) (pa_cons (pe_lst (pa_cons (pe_k c__law_cut hr (by decide) (by rfl) (pa_cons (pv 10) (pa_cons (pv 3) pa_nil))) (pa_cons (pv 11) pa_nil))) pa_nil))))) (pss_one (ps_ret pe_bl)) pss_nil)
      (pss_cons (ps_par (i := 14) (j := 15) (by rfl) sc.nd rfl rfl (by decide) rfl rfl (pa_cons (pe_k c_margin hr (by decide) (by rfl) (pa_cons (pv 2) (pa_cons (pv 3) (pa_cons (pv 8) (pa_cons (pv 9) pa_nil))))) (pa_cons (pe_kk0 kw_margin_0_v_u_some_network hr (by decide) (by rfl) (pk_cons (pv 9) (pk_cons (pv 8) (pk_cons (pv 3) (pk_cons (pv 13) pk_nil))))) pa_nil)) (by rfl))
      (pss_cons (ps_if (PW.pt (pw_or (pt_cmpR op_ne (pe_cmp (pc_isN (pv 14)) rfl) (pe_cmp (pc_isN (pv 15)) rfl) (nomark _)) (pw_or1 (PW.pt (pw_and (pt_cmp (pc_notN (pv 14)) rfl) (pw_and1 (pt_not (pt_val (pe_k c__law_same hr (by decide) (by rfl) (pa_cons (pv 15) (pa_cons (pe_callB (call_max2 rfl) (by rfl) T.max boot_max (pa_cons pe_int (pa_cons (pe_op op_sub (pv 14) (pv 7)) pa_nil))) pa_nil))))))))))) (pss_one (ps_ret pe_bl)) pss_nil)
      (pss_cons (ps_par (i := 14) (j := 15) (by rfl) sc.nd rfl rfl (by decide) rfl rfl (pa_cons (pe_k c_room hr (by decide) (by rfl) (pa_cons (pv 2) (pa_cons (pv 3) (pa_cons (pv 8) (pa_cons (pv 9) pa_nil))))) (pa_cons (pe_kk0 kw_room_0_v_u_some_network hr (by decide) (by rfl) (pk_cons (pv 9) (pk_cons (pv 8) (pk_cons (pv 3) (pk_cons (pv 13) pk_nil))))) pa_nil)) (by rfl))
      (pss_cons (ps_if (PW.pt (pw_or (pt_cmpR op_ne (pe_cmp (pc_isN (pv 14)) rfl) (pe_cmp (pc_isN (pv 15)) rfl) (nomark _)) (pw_or1 (PW.pt (pw_and (pt_cmp (pc_notN (pv 14)) rfl) (pw_and1 (pt_not (pt_val (pe_k c__law_same hr (by decide) (by rfl) (pa_cons (pv 15) (pa_cons (pe_op op_add (pv 14) (pv 11)) pa_nil))))))))))) (pss_one (ps_ret pe_bl)) pss_nil)
      (pss_cons (ps_set (i := 16) sc.nd rfl (Or.inl rfl) (pe_k c__law_take hr (by decide) (by rfl) (pa_cons (pv 0) (pa_cons (pe_op op_add (pe_op op_sub (pv 6) (pv 7)) pe_int) pa_nil))))
      (pss_cons (ps_if (pt_cmpR op_ne (pe_k c_loss hr (by decide) (by rfl) (pa_cons (pv 2) (pa_cons (pv 3) (pa_cons (pv 8) (pa_cons (pv 9) (pa_cons (pe_op op_add (pv 7) (pv 16)) pa_nil)))))) (pe_op op_add (pv 11) (pe_k c_loss hr (by decide) (by rfl) (pa_cons (pv 13) (pa_cons (pv 3) (pa_cons (pv 8) (pa_cons (pv 9) (pa_cons (pv 16) pa_nil))))))) (nomark _)) (pss_one (ps_ret pe_bl)) pss_nil)
      (pss_cons (ps_set (i := 17) sc.nd rfl (Or.inl rfl) (pe_kk kw_with_capacity_1_v_u_capacity hr (by decide) (by rfl) (pa_cons (pv 13) pa_nil) (pk_cons (pv 9) (pk_cons (pv 8) (pk_cons (pe_op op_sub (pe_op op_sub (pv 6) (pv 7)) (pv 16)) pk_nil)))))
      (pss_cons (ps_set (i := 18) sc.nd rfl (Or.inl rfl) (pe_k c_with_capacity hr (by decide) (by rfl) (pa_cons (pe_k c_with_capacity hr (by decide) (by rfl) (pa_cons (pv 17) (pa_cons (pv 8) (pa_cons (pv 9) (pa_cons (pe_op op_sub (pv 6) (pv 7)) pa_nil))))) (pa_cons (pv 8) (pa_cons (pv 9) (pa_cons (pv 6) pa_nil))))))
      (pss_one (ps_ret (pe_and (pe_cmpR (op_eqNet T (hr.mono (by decide))) (pv 18) (pv 2) (nomark _)) (pe_one (pe_k c__law_same hr (by decide) (by rfl) (pa_cons (pe_k c_cut_value hr (by decide) (by rfl) (pa_cons (pv 18) (pa_cons (pv 3) pa_nil))) (pa_cons (pe_k c__law_cut hr (by decide) (by rfl) (pa_cons (pv 1) (pa_cons (pv 3) pa_nil))) pa_nil))))))))))))))))))))))))), fun y p hp nd => ?_⟩
  obtain ⟨⟨x, q⟩, s, ⟨k, c⟩, bn⟩ := y
  obtain ⟨ok, hlen, hs, hkey, hcap⟩ := hp
  have ok : LwOk x := ok
  have hlen : x.ed.length ≤ 100 := hlen
  have hs : PartOk x.ts s := hs
  have hkey : lk x.ed k = some c := hkey
  have hcap : c ≤ 1000 := hcap
  have hl : x.ed.length ≤ 300 := by omega
  have c1 : 1 ≤ c := lw_pos ok _ (lk_mem hkey)
  have hK := key_of ok hkey
  have hqp : q ≠ p := by
    have h := (List.nodup_cons.mp nd).1
    simpa [eq_comm] using h
  have m0 : ((q, OC.dT (mP fI x.ed)) : Addr × OC) ∈ ((p, boxC) :: oLn x q) := by simp
  refine hs_set (R := rInt c) (ev_dgetT (r := mP fI x.ed) (k := kP k) (n_ed (ev_var rfl)) (.inr ⟨q, rfl, .inl m0⟩) (ev_var rfl) (by rw [lk_mP, hkey]; rfl)) ?_
  refine hs_setZE (k := 0) (ez_take (m := c + 1) (ev_var rfl) (ev_op (ev_var rfl) ev_c vo_I0) (by omega) (by omega)) rfl (by simp) (kk := fun f hf => ?_)
  have hf0 : 0 ≤ f := hf.1
  have hfc : f ≤ c := by have := hf.2; omega
  refine hs_asgZE (k := 0) (ez_callM ((x, q), k) (eaz_of (ea_cons (ev_var rfl) (ea_cons (ev_var rfl) (ea_cons (ev_var rfl) ea_nil)))) rfl trivial (fun _ h => h) (by simp) (by simp) (fun e he => by rw [List.mem_singleton.mp he]; exact hqp)) rfl (by simp) (hg := fun z hz => tg_two) (kk := fun z hz => ?_)
  obtain ⟨u, v⟩ := z
  have huv : (u, v) = k ∨ (x.dir = false ∧ (u, v) = (k.2, k.1)) := hz
  have hu : u ∈ x.ns := by
    rcases huv with h | ⟨_, h⟩
    · have := hK.a; rw [← h] at this; exact this
    · cases h; exact hK.b
  have hv : v ∈ x.ns := by
    rcases huv with h | ⟨_, h⟩
    · have := hK.b; rw [← h] at this; exact this
    · cases h; exact hK.a
  have hne : u ≠ v := by
    rcases huv with h | ⟨_, h⟩
    · have := hK.ne; rw [← h] at this; exact this
    · cases h; exact fun e => hK.ne e.symm
  have okf := fall_ok ok hkey hl f
  have eself : x.cn = (x.put k c).cn := cn_self ok hkey
  have efall : (x.fall k f).cn = (x.put k (c - f)).cn := cn_fall ok hkey f
  have okp : ∀ d, LwOk (x.put k d) := put_ok ok hK hl
  have pre : ∀ d, PreUV (((x.put k d).cn, s), u, v) := fun d => ⟨⟨cn_ok (okp d), hs⟩, hu, hv, hne⟩
  have prx : PreUV ((x.cn, s), u, v) := ⟨⟨cn_ok ok, hs⟩, hu, hv, hne⟩
  have lenp : ∀ d, (x.put k d).cn.es.length ≤ 399 := fun d => by
    show (sortE (x.put k d).es).length ≤ 399
    rw [(sortE_perm _).length_eq]
    have := set_len (ed := x.ed) (k := k) (c := d)
    show ((setC x.ed k d).map _).length ≤ 399
    rw [List.length_map]; omega
  -- the least values
  have ha : aO (x.put k (c - f)).cn s u v = (aO x.cn s u v).map (· - f) := by
    rw [a_put ok hK hl huv (c := c) (d := c - f) (by omega) (by omega), ← eself, show c - (c - f) = f by omega]
  have hb : bO (x.put k (c - f)).cn s u v = bO x.cn s u v := by
    rw [b_put ok hK hl huv (c := c) (d := c - f) (by omega) (by omega), ← eself]
  have l1 := v_lo (cn_ok ok) hs u v
  have l2 := v_lo (cn_ok (okp (c - f))) hs u v
  rw [ha, hb] at l2
  have ev : vOf x.nw s = vOf x.cn s := (v_cn s).symm
  have ew : vOf (x.fall k f).nw s = vOf (x.put k (c - f)).cn s := by rw [← v_cn s, efall]
  have dl : lossV (margO x.cn s u v) f = vOf x.nw s - vOf (x.fall k f).nw s := by
    rw [ev, ew]; exact f_loss hf0 l1 l2
  have dr : riseV (roomO (x.put k (c - f)).cn s u v) f = vOf x.nw s - vOf (x.fall k f).nw s := by
    unfold roomO
    rw [hb, ev, ew]; exact f_rise hf0 l1 l2
  have dm : margO (x.put k (c - f)).cn s u v = (margO x.cn s u v).map fun m => if m - f > 0 then m - f else 0 := by
    unfold margO
    rw [ha]; exact f_margin hf0 l1 l2
  have dro : roomO (x.put k (c - f)).cn s u v = (roomO x.cn s u v).map (· + (vOf x.nw s - vOf (x.fall k f).nw s)) := by
    unfold roomO
    rw [hb, ev, ew]; exact f_room
  have d2 : ∀ m, 0 ≤ m → lossV (margO x.cn s u v) (f + m) = vOf x.nw s - vOf (x.fall k f).nw s + lossV (margO (x.put k (c - f)).cn s u v) m := fun m hm => by
    unfold margO
    rw [ha, ev, ew]; exact f_two hf0 hm l1 l2
  have capx : capE x.cn.es (keyE x.cn.dir u v) = c := by
    show capE x.cn.es (keyE x.dir u v) = c
    rw [key_eq hK huv, eself, cap_put ok (by omega)]
  have capf : capE (x.put k (c - f)).cn.es (keyE (x.put k (c - f)).cn.dir u v) = c - f := by
    show capE (x.put k (c - f)).cn.es (keyE x.dir u v) = c - f
    rw [key_eq hK huv, cap_put ok (by omega)]
  have wp : ∀ d e, withCap (x.put k d).cn u v e = (x.put k e).cn := fun d e => by
    have hKp : KeyOk (x.put k d) k := ⟨hK.a, hK.b, hK.ne, hK.up⟩
    rw [with_put hKp huv, put_put]
  have wx : ∀ e, withCap x.cn u v e = (x.put k e).cn := fun e => with_put hK huv
  generalize hD : vOf x.nw s - vOf (x.fall k f).nw s = D at dl dr dro d2
  generalize hw : vOf (x.fall k f).nw s = w' at hD ew
  refine HT.eq (t' := [some (rRef p), some (rLn x q), some (rNet K x.cn), some (rTI s), some (rTI [k.1, k.2]), some (rBl bn), some (rInt c), some (rInt f), some (rInt u), some (rInt v), none, none, none, none, none, none, none, none, none, none]) (O' := [(p, boxC), (q, .dT (mP fI x.ed))]) ?_ rfl rfl rfl
  refine hs_setY ((x, q), k, f) (ea_cons (ev_var rfl) (ea_cons (ev_var rfl) (ea_cons (ev_var rfl) ea_nil))) ok (fun e he => by rw [List.mem_singleton.mp he]; exact m0) (fun _ => rfl) fun z d hz => ?_
  have hz : z = x.fall k f := hz
  subst hz
  refine HT.eq (t' := [some (rRef p), some (rLn x q), some (rNet K x.cn), some (rTI s), some (rTI [k.1, k.2]), some (rBl bn), some (rInt c), some (rInt f), some (rInt u), some (rInt v), some (rLn (x.fall k f) d), none, none, none, none, none, none, none, none, none]) (O' := [(d, .dT (mP fI (x.fall k f).ed)), (p, boxC), (q, .dT (mP fI x.ed))]) ?_ rfl rfl rfl
  refine hs_set (R := rInt D) (EvT.to (ev_op (ev_call ((x, q), s) (ea_cons (ev_var rfl) (ea_cons (ev_var rfl) ea_nil)) ⟨ok, hs⟩) (ev_call ((x.fall k f, d), s) (ea_cons (ev_var rfl) (ea_cons (ev_var rfl) ea_nil)) ⟨okf, hs⟩) vo_I0) (by rw [hw]; exact congrArg rInt hD)) ?_
  refine hs_set (R := rInt D) (ev_if (eb_b (ev_var rfl)) (fun _ => EvT.to (ev_callN (((x.cn, s), u, v), f) ea_nil (ea_cons (ev_var rfl) (ea_cons (ev_var rfl) (ea_cons (ev_var rfl) (ea_cons (ev_var rfl) (ea_cons (ev_var rfl) ea_nil))))) rfl rfl (fun vs zs G h1 h2 => all2_kw [4, 3, 2, 1, 0] h1 h2) ⟨prx, hf0, by rw [show _ = c from capx]; exact hfc⟩) (congrArg rInt dl)) fun _ => EvT.to (ev_call (((x.cn, s), u, v), f) (ea_cons (ev_var rfl) (ea_cons (ev_var rfl) (ea_cons (ev_var rfl) (ea_cons (ev_var rfl) (ea_cons (ev_var rfl) ea_nil))))) ⟨prx, hf0, by rw [show _ = c from capx]; exact hfc⟩) (congrArg rInt dl)) ?_
  refine HT.eq (t' := [some (rRef p), some (rLn x q), some (rNet K x.cn), some (rTI s), some (rTI [k.1, k.2]), some (rBl bn), some (rInt c), some (rInt f), some (rInt u), some (rInt v), some (rLn (x.fall k f) d), some (rInt D), some (rInt D), none, none, none, none, none, none, none]) (O' := [(d, .dT (mP fI (x.fall k f).ed)), (p, boxC), (q, .dT (mP fI x.ed))]) ?_ rfl rfl rfl
  refine hs_ifNo (EvB.to (eb_not (eb_b (ev_call (Da.int D) (ea_cons (ev_var rfl) (ea_cons (ev_var rfl) ea_nil)) flat_int))) rfl) ?_
  refine hs_set (R := rNet K (x.put k (c - f)).cn) (EvT.to (ev_call (x.cn, u, v, c - f) (ea_cons (ev_var rfl) (ea_cons (ev_var rfl) (ea_cons (ev_var rfl) (ea_cons (ev_op (ev_var rfl) (ev_var rfl) vo_I0) ea_nil)))) ⟨cn_ok ok, hu, hv, hne, ⟨by show 0 ≤ c - f; omega, by show c - f ≤ 1000000; omega⟩, by rw [show x.cn = _ from eself]; exact lenp c⟩) (congrArg (rNet K) (wx _))) ?_
  refine HT.eq (t' := [some (rRef p), some (rLn x q), some (rNet K x.cn), some (rTI s), some (rTI [k.1, k.2]), some (rBl bn), some (rInt c), some (rInt f), some (rInt u), some (rInt v), some (rLn (x.fall k f) d), some (rInt D), some (rInt D), some (rNet K (x.put k (c - f)).cn), none, none, none, none, none, none]) (O' := [(d, .dT (mP fI (x.fall k f).ed)), (p, boxC), (q, .dT (mP fI x.ed))]) ?_ rfl rfl rfl
  have ndf := ed_nd okf
  have hof := ord_ok (x.fall k f).ed
  have hlf : (ordE (x.fall k f).ed).length ≤ 1000 := by
    rw [hof.1.length_eq]
    have := okf.1.elen
    have e : (x.fall k f).nw.es.length = (x.fall k f).ed.length := List.length_map _
    omega
  refine hs_ifNo (EvB.to (eb_not (eb_test (ev_op (ev_var rfl) (EvT.to (ev_net4 (⟨x.ns, false, (ordE (x.fall k f).ed).map fun e => (e.1.1, e.1.2, e.2), false, x.ts, false, x.dir⟩ : ArgN) (ea_cons (n_ns (ev_var rfl)) (ea_cons (EvT.to (ev_lc0 (xs := ordE (x.fall k f).ed) (f := fun e => rKT (kP e.1)) (r := fun e => rEd (ceE e)) (src_lst (ev_ord (ed := (x.fall k f).ed) (n_ed (ev_var rfl)) (.inr ⟨d, rfl, .inl List.mem_cons_self⟩))) (small hlf) fun e he => ⟨_, _, tg_name, by simp, EvT.to (R := rTup ([rInt e.1.1, rInt e.1.2] ++ [rInt e.2])) (ev_op (ev_var rfl) (ev_tup (ea_cons (ev_dgetT (r := mP fI (x.fall k f).ed) (k := kP e.1) (R := rInt e.2) (n_ed (ev_var rfl)) (.inr ⟨d, rfl, .inl List.mem_cons_self⟩) (ev_var rfl) (by rw [lk_mP, lk_of_mem ndf (hof.1.mem_iff.mp he)]; rfl)) ea_nil)) (vo_catT (lineBig' (by simp)))) rfl⟩) (by show rLst _ = rLst _; rw [List.map_map]; rfl)) (ea_cons (n_ts (ev_var rfl)) (ea_cons (n_dir (ev_var rfl)) ea_nil)))) (pre_n okf _ _ _ (List.Perm.refl _) (hof.1.map _) (List.Perm.refl _))) (R' := rNet K (x.put k (c - f)).cn) (by rw [← efall, ← net_cn okf (List.Perm.refl _) (hof.1.map fun e => (e.1.1, e.1.2, e.2)) (List.Perm.refl _) (bn := false) (be := false) (bt := false)]; rfl)) (vo_eqNet _)))) rfl) ?_
  refine hs_ifNo (EvB.to (eb_not (eb_b (ev_call (Da.lst [.int w', .int D]) (ea_cons (EvT.to (ev_lst (ea_cons (EvT.to (ev_call ((x.put k (c - f)).cn, s) (ea_cons (ev_var rfl) (ea_cons (ev_var rfl) ea_nil)) (pre _).s) (R' := rInt w') (by rw [ew])) (ea_cons (EvT.to (ev_call ((((x.put k (c - f)).cn, s), u, v), f) (ea_cons (ev_var rfl) (ea_cons (ev_var rfl) (ea_cons (ev_var rfl) (ea_cons (ev_var rfl) (ea_cons (ev_var rfl) ea_nil))))) ⟨pre _, hf0, by show f ≤ 1000000; omega⟩) (congrArg rInt dr)) ea_nil))) (by simp only [Da.rp, Da.rps])) (ea_cons (EvT.to (ev_lst (ea_cons (EvT.to (ev_call ((x.fall k f, d), s) (ea_cons (ev_var rfl) (ea_cons (ev_var rfl) ea_nil)) ⟨okf, hs⟩) (R' := rInt w') (by rw [hw])) (ea_cons (ev_var rfl) ea_nil))) (by simp only [Da.rp, Da.rps])) ea_nil)) (by unfold Flat; exact ⟨by simp, by unfold Flats; exact ⟨flat_int, by unfold Flats; exact ⟨flat_int, by simp [Flats]⟩⟩⟩)))) rfl) ?_
  have chk : ∀ {t : Tys} {O : Os} {tc : TE} (o : Option Int) (g : Int → Int), t[14]? = some (some (rOp o)) → t[15]? = some (some (rOp (o.map g))) → (∀ m, o = some m → EvT t O tc (rBl true)) → EvB t O (tOr (tTest (tOp rNe (tIsN (tVar 14)) (tIsN (tVar 15)))) (tAnd (tB (tNotN (tVar 14))) (tNot (tB tc)))) false := fun {t O tc} o g h1 h2 h3 => by
    have isn : ∀ o : Option Int, (decide (opV o = .non)) = o.isNone := fun o => by cases o <;> rfl
    have e1 : EvB t O (tTest (tOp rNe (tIsN (tVar 14)) (tIsN (tVar 15)))) false := EvB.to (eb_test (ev_op (ev_isN (ev_var h1)) (ev_isN (ev_var h2)) (vo_ne rfl))) (by rw [isn, isn]; cases o <;> rfl)
    have e2 : EvB t O (tAnd (tB (tNotN (tVar 14))) (tNot (tB tc))) false := by
      cases o with
      | none => exact EvB.to (eb_and (a := false) (b := false) (EvB.to (eb_b (ev_notN (ev_var h1))) (by rw [isn]; rfl)) fun h => Bool.noConfusion h) rfl
      | some m => exact EvB.to (eb_and (a := true) (b := false) (EvB.to (eb_b (ev_notN (ev_var h1))) (by rw [isn]; rfl)) fun _ => EvB.to (eb_not (eb_b (h3 m rfl))) rfl) rfl
    exact EvB.to (eb_or e1 fun _ => e2) rfl
  generalize hM : margO x.cn s u v = mo at dl dm d2
  refine hs_par (R1 := rOp mo) (R2 := rOp (mo.map fun m => if m - f > 0 then m - f else 0)) (ea_cons (EvT.to (ev_call ((x.cn, s), u, v) (ea_cons (ev_var rfl) (ea_cons (ev_var rfl) (ea_cons (ev_var rfl) (ea_cons (ev_var rfl) ea_nil)))) prx) (congrArg rOp hM)) (ea_cons (EvT.to (ev_callN (((x.put k (c - f)).cn, s), u, v) ea_nil (ea_cons (ev_var rfl) (ea_cons (ev_var rfl) (ea_cons (ev_var rfl) (ea_cons (ev_var rfl) ea_nil)))) rfl rfl (fun vs zs G h1 h2 => all2_kw [3, 2, 1, 0] h1 h2) (pre _)) (congrArg rOp dm)) ea_nil)) ?_
  refine HT.eq (t' := [some (rRef p), some (rLn x q), some (rNet K x.cn), some (rTI s), some (rTI [k.1, k.2]), some (rBl bn), some (rInt c), some (rInt f), some (rInt u), some (rInt v), some (rLn (x.fall k f) d), some (rInt D), some (rInt D), some (rNet K (x.put k (c - f)).cn), some (rOp mo), some (rOp (mo.map fun m => if m - f > 0 then m - f else 0)), none, none, none, none]) (O' := [(d, .dT (mP fI (x.fall k f).ed)), (p, boxC), (q, .dT (mP fI x.ed))]) ?_ rfl rfl rfl
  refine hs_ifNo (chk mo (fun m => if m - f > 0 then m - f else 0) rfl rfl fun m hm => ev_call (Da.int (if m - f > 0 then m - f else 0)) (ea_cons (EvT.to (ev_var (R := rOp (mo.map fun m => if m - f > 0 then m - f else 0)) rfl) (by rw [hm]; rfl)) (ea_cons (ev_cb (ea_cons ev_c (ea_cons (ev_op (EvT.to (ev_var (R := rOp mo) rfl) (R' := rInt m) (by rw [hm]; rfl)) (ev_var rfl) vo_I0) ea_nil)) vc_max2) ea_nil)) flat_int) ?_
  generalize hR : roomO x.cn s u v = ro at dro
  refine hs_par (R1 := rOp ro) (R2 := rOp (ro.map (· + D))) (ea_cons (EvT.to (ev_call ((x.cn, s), u, v) (ea_cons (ev_var rfl) (ea_cons (ev_var rfl) (ea_cons (ev_var rfl) (ea_cons (ev_var rfl) ea_nil)))) prx) (congrArg rOp hR)) (ea_cons (EvT.to (ev_callN (((x.put k (c - f)).cn, s), u, v) ea_nil (ea_cons (ev_var rfl) (ea_cons (ev_var rfl) (ea_cons (ev_var rfl) (ea_cons (ev_var rfl) ea_nil)))) rfl rfl (fun vs zs G h1 h2 => all2_kw [3, 2, 1, 0] h1 h2) (pre _)) (congrArg rOp dro)) ea_nil)) ?_
  refine HT.eq (t' := [some (rRef p), some (rLn x q), some (rNet K x.cn), some (rTI s), some (rTI [k.1, k.2]), some (rBl bn), some (rInt c), some (rInt f), some (rInt u), some (rInt v), some (rLn (x.fall k f) d), some (rInt D), some (rInt D), some (rNet K (x.put k (c - f)).cn), some (rOp ro), some (rOp (ro.map (· + D))), none, none, none, none]) (O' := [(d, .dT (mP fI (x.fall k f).ed)), (p, boxC), (q, .dT (mP fI x.ed))]) ?_ rfl rfl rfl
  refine hs_ifNo (chk ro (· + D) rfl rfl fun m hm => ev_call (Da.int (m + D)) (ea_cons (EvT.to (ev_var (R := rOp (ro.map (· + D))) rfl) (by rw [hm]; rfl)) (ea_cons (ev_op (EvT.to (ev_var (R := rOp ro) rfl) (R' := rInt m) (by rw [hm]; rfl)) (ev_var rfl) vo_I0) ea_nil)) flat_int) ?_
  refine hs_setZE (k := 1) (ez_take (m := c - f + 1) (ev_var rfl) (ev_op (ev_op (ev_var rfl) (ev_var rfl) vo_I0) ev_c vo_I0) (by omega) (by omega)) rfl (by simp) (kk := fun m hm => ?_)
  refine HT.eq (t' := [some (rRef p), some (rLn x q), some (rNet K x.cn), some (rTI s), some (rTI [k.1, k.2]), some (rBl bn), some (rInt c), some (rInt f), some (rInt u), some (rInt v), some (rLn (x.fall k f) d), some (rInt D), some (rInt D), some (rNet K (x.put k (c - f)).cn), some (rOp ro), some (rOp (ro.map (· + D))), some (rInt m), none, none, none]) (O' := [(d, .dT (mP fI (x.fall k f).ed)), (p, boxC), (q, .dT (mP fI x.ed))]) ?_ rfl rfl rfl
  have hm0 : 0 ≤ m := hm.1
  have hmc : m ≤ c - f := by have := hm.2; omega
  refine hs_ifNo (EvB.to (eb_test (ev_op (ev_call (((x.cn, s), u, v), f + m) (ea_cons (ev_var rfl) (ea_cons (ev_var rfl) (ea_cons (ev_var rfl) (ea_cons (ev_var rfl) (ea_cons (ev_op (ev_var rfl) (ev_var rfl) vo_I0) ea_nil))))) ⟨prx, by show 0 ≤ f + m; omega, by rw [show _ = c from capx]; show f + m ≤ c; omega⟩) (ev_op (ev_var rfl) (ev_call ((((x.put k (c - f)).cn, s), u, v), m) (ea_cons (ev_var rfl) (ea_cons (ev_var rfl) (ea_cons (ev_var rfl) (ea_cons (ev_var rfl) (ea_cons (ev_var rfl) ea_nil))))) ⟨pre _, hm0, by rw [show _ = c - f from capf]; exact hmc⟩) vo_I0) vo_neI)) (by rw [show margO x.cn s u v = mo from hM, d2 m hm0, decide_eq_true rfl]; rfl)) ?_
  refine hs_set (R := rNet K (x.put k (c - f - m)).cn) (EvT.to (ev_callN ((x.put k (c - f)).cn, u, v, c - f - m) (ea_cons (ev_var rfl) ea_nil) (ea_cons (ev_var rfl) (ea_cons (ev_var rfl) (ea_cons (ev_op (ev_op (ev_var rfl) (ev_var rfl) vo_I0) (ev_var rfl) vo_I0) ea_nil))) rfl rfl (fun vs zs G h1 h2 => all2_kw [1, 0, 2] h1 h2) ⟨cn_ok (okp _), hu, hv, hne, ⟨by show 0 ≤ c - f - m; omega, by show c - f - m ≤ 1000000; omega⟩, lenp _⟩) (congrArg (rNet K) (wp _ _))) ?_
  refine HT.eq (t' := [some (rRef p), some (rLn x q), some (rNet K x.cn), some (rTI s), some (rTI [k.1, k.2]), some (rBl bn), some (rInt c), some (rInt f), some (rInt u), some (rInt v), some (rLn (x.fall k f) d), some (rInt D), some (rInt D), some (rNet K (x.put k (c - f)).cn), some (rOp ro), some (rOp (ro.map (· + D))), some (rInt m), some (rNet K (x.put k (c - f - m)).cn), none, none]) (O' := [(d, .dT (mP fI (x.fall k f).ed)), (p, boxC), (q, .dT (mP fI x.ed))]) ?_ rfl rfl rfl
  refine hs_set (R := rNet K x.cn) (EvT.to (ev_call ((x.put k (c - f)).cn, u, v, c) (ea_cons (EvT.to (ev_call ((x.put k (c - f - m)).cn, u, v, c - f) (ea_cons (ev_var rfl) (ea_cons (ev_var rfl) (ea_cons (ev_var rfl) (ea_cons (ev_op (ev_var rfl) (ev_var rfl) vo_I0) ea_nil)))) ⟨cn_ok (okp _), hu, hv, hne, ⟨by show 0 ≤ c - f; omega, by show c - f ≤ 1000000; omega⟩, lenp _⟩) (congrArg (rNet K) (wp _ _))) (ea_cons (ev_var rfl) (ea_cons (ev_var rfl) (ea_cons (ev_var rfl) ea_nil)))) ⟨cn_ok (okp _), hu, hv, hne, ⟨by show 0 ≤ c; omega, by show c ≤ 1000000; omega⟩, lenp _⟩) (congrArg (rNet K) ((wp _ _).trans eself.symm))) ?_
  refine HT.eq (t' := [some (rRef p), some (rLn x q), some (rNet K x.cn), some (rTI s), some (rTI [k.1, k.2]), some (rBl bn), some (rInt c), some (rInt f), some (rInt u), some (rInt v), some (rLn (x.fall k f) d), some (rInt D), some (rInt D), some (rNet K (x.put k (c - f)).cn), some (rOp ro), some (rOp (ro.map (· + D))), some (rInt m), some (rNet K (x.put k (c - f - m)).cn), some (rNet K x.cn), none]) (O' := [(d, .dT (mP fI (x.fall k f).ed)), (p, boxC), (q, .dT (mP fI x.ed))]) ?_ rfl rfl rfl
  refine ht_ret (ev_and (ev_op (ev_var rfl) (ev_var rfl) (vo_eqNet _)) fun _ => ev_call (Da.int (vOf x.nw s)) (ea_cons (EvT.to (ev_call (x.cn, s) (ea_cons (ev_var rfl) (ea_cons (ev_var rfl) ea_nil)) prx.s) (congrArg rInt ev.symm)) (ea_cons (ev_call ((x, q), s) (ea_cons (ev_var rfl) (ea_cons (ev_var rfl) ea_nil)) ⟨ok, hs⟩) ea_nil)) flat_int) ⟨rfl, boxC, rfl, by simp⟩
theorem c__law_fall_right (T : Tp K mg) : Kal P w K mg base 13 "_law_fall_right" ["box", "net", "network", "some", "pair", "by_name"] (spFall K) := by
  obtain ⟨⟨fd, F⟩, hm⟩ := T.at_ 62 "_law_fall_right" 86
  exact kal_of F hm (ok__law_fall_right T F) (fun _ _ _ _ _ _ us hl => match us, hl with | [_, _, _, _, _, _], _ => rfl)
end
end K96
set_option Elab.async false
set_option linter.all false
set_option maxRecDepth 100000
set_option maxHeartbeats 4000000
/-! law k96: critical edges. Own work. -/
namespace K96
open PySem PySem.Spec L2 Rz Cut
section
variable {P : Program} {w : World} {K : PySem.W.Frag} {mg : Str → Option Value} {base : Heap}
theorem vo_neLL0 {O : Os} {nss : List (List Int)} : VO O (rNeD K) (rLst (nss.map rTI)) (rLst []) (rBl (!nss.isEmpty)) := by
  have h := vo_neD (K := K) (O := O) (shaped_LL nss) (shaped_LL [])
  rw [daLL_rp, daLL_rp] at h
  have e : PyData.eqv (Da.py (.lst (daLL nss))) (Da.py (.lst (daLL []))) = nss.isEmpty := by
    cases nss with
    | nil => simp [daLL, Da.py, Da.pys, PyData.eqv, PyData.eqvAll]
    | cons ns r => simp [daLL, Da.py, Da.pys, PyData.eqv, PyData.eqvAll]
  rw [e] at h
  exact h
theorem lex_three {a b c x y z : Int} (h : HT.lexLt [a, b] [x, y] = false) (ne : (a, b) ≠ (x, y)) : HT.lexLt [a, b, c] [x, y, z] = false := by
  simp only [HT.lexLt] at h ⊢
  by_cases h1 : a = x
  · rw [if_pos h1] at h ⊢
    by_cases h2 : b = y
    · exact absurd (by rw [h1, h2]) ne
    · rw [if_neg h2] at h ⊢; exact h
  · rw [if_neg h1] at h ⊢; exact h
theorem ord_es {x : Lw} (ok : LwOk x) : sortE x.es = (ordE x.ed).map ceE := by
  have ho := ord_ok x.ed
  have nd : ((ordE x.ed).map (·.1)).Nodup := (ho.1.map _).nodup_iff.mpr (ed_nd ok)
  refine sortE_eq ⟨(ho.1.map ceE).map tr3, ?_⟩
  obtain ⟨m, hm⟩ := lex_exists (keysL x.ed)
  have h1 : (keysL (ordE x.ed)).Pairwise fun a b => HT.lexLt b a = false := by
    rw [← ho.2, lexOf_eq hm]; exact hm.2
  rw [List.map_map, List.pairwise_map]
  have h2 := List.pairwise_map.mp h1
  have h3 := List.pairwise_map.mp nd
  exact List.Pairwise.imp₂ (fun a b e1 e2 => lex_three e1 fun q => e2 (Prod.ext (by have := congrArg Prod.fst q; exact this.symm) (by have := congrArg Prod.snd q; exact this.symm))) h2 h3
noncomputable def critB (x : Lw) (ss : List (List Int)) (e : (Int × Int) × Int) : Bool := !(ss.filter fun s => decide (vOf (x.fall e.1 1).nw s < vOf x.nw s)).isEmpty
theorem crit_one {x : Lw} (ok : LwOk x) (hlen : x.ed.length ≤ 100) {ss : List (List Int)} (hs : ∀ s ∈ ss, PartOk x.ts s) {e : (Int × Int) × Int} (he : e ∈ x.ed) : critB x ss e = ss.any fun s => decide (opV (margO x.cn s e.1.1 e.1.2) = .int 0) := by
  have hkey : lk x.ed e.1 = some e.2 := lk_of_mem (ed_nd ok) he
  have hK := key_of ok hkey
  have hl : x.ed.length ≤ 300 := by omega
  have c1 : 1 ≤ e.2 := lw_pos ok _ he
  have one : ∀ s ∈ ss, decide (vOf (x.fall e.1 1).nw s < vOf x.nw s) = decide (opV (margO x.cn s e.1.1 e.1.2) = .int 0) := fun s hm => by
    have huv : (e.1.1, e.1.2) = e.1 ∨ (x.dir = false ∧ (e.1.1, e.1.2) = (e.1.2, e.1.1)) := .inl rfl
    have eself : x.cn = (x.put e.1 e.2).cn := cn_self ok hkey
    have efall : (x.fall e.1 1).cn = (x.put e.1 (e.2 - 1)).cn := cn_fall ok hkey 1
    have ha : aO (x.put e.1 (e.2 - 1)).cn s e.1.1 e.1.2 = (aO x.cn s e.1.1 e.1.2).map (· - 1) := by
      rw [a_put ok hK hl huv (c := e.2) (d := e.2 - 1) (by omega) (by omega), ← eself, show e.2 - (e.2 - 1) = 1 by omega]
    have hb : bO (x.put e.1 (e.2 - 1)).cn s e.1.1 e.1.2 = bO x.cn s e.1.1 e.1.2 := by
      rw [b_put ok hK hl huv (c := e.2) (d := e.2 - 1) (by omega) (by omega), ← eself]
    have l1 := v_lo (cn_ok ok) (hs s hm) e.1.1 e.1.2
    have l2 := v_lo (cn_ok (put_ok ok hK hl (e.2 - 1))) (hs s hm) e.1.1 e.1.2
    rw [ha, hb] at l2
    have h := f_crit l1 l2
    rw [← efall, v_cn, v_cn] at h
    refine decide_eq_decide.mpr (h.symm.trans ?_)
    unfold margO
    rw [v_cn]
    cases (aO x.cn s e.1.1 e.1.2).map (· - vOf x.nw s) with
    | none => exact ⟨fun q => (by cases q), fun q => (by cases q)⟩
    | some i => exact ⟨fun q => (by cases q; rfl), fun q => (by cases q; rfl)⟩
  unfold critB
  cases h : (ss.any fun s => decide (opV (margO x.cn s e.1.1 e.1.2) = .int 0)) with
  | true =>
    obtain ⟨s, hm, h2⟩ := List.any_eq_true.mp h
    have : s ∈ ss.filter fun s => decide (vOf (x.fall e.1 1).nw s < vOf x.nw s) := List.mem_filter.mpr ⟨hm, (one s hm).trans h2⟩
    cases z : (ss.filter fun s => decide (vOf (x.fall e.1 1).nw s < vOf x.nw s)) with
    | nil => rw [z] at this; cases this
    | cons _ _ => rfl
  | false =>
    have : (ss.filter fun s => decide (vOf (x.fall e.1 1).nw s < vOf x.nw s)) = [] := List.filter_eq_nil_iff.mpr fun s hm q => by
      rw [one s hm] at q
      have hq : (ss.any fun s => decide (opV (margO x.cn s e.1.1 e.1.2) = .int 0)) = true := List.any_eq_true.mpr ⟨s, hm, q⟩
      rw [h] at hq; cases hq
    rw [this]; rfl
theorem crit_eq {x : Lw} (ok : LwOk x) (hlen : x.ed.length ≤ 100) {ss : List (List Int)} (hs : ∀ s ∈ ss, PartOk x.ts s) : critE x.cn ss = ((ordE x.ed).filter (critB x ss)).map ceE := by
  unfold critE
  show (sortE x.es).filter _ = _
  rw [ord_es ok, List.filter_map]
  congr 1
  refine List.filter_congr fun e he => ?_
  exact (crit_one ok hlen hs ((ord_ok x.ed).1.mem_iff.mp he)).symm
abbrev spCritR (K : PySem.W.Frag) : Sp := Prm (fun y : (Lw × Addr) × List (List Int) × Bool => [rLn y.1.1 y.1.2, rNet K y.1.1.cn, rLst (y.2.1.map rTI), rBl y.2.2]) (fun y => oLn y.1.1 y.1.2) (fun y => LwOk y.1.1 ∧ y.1.1.ed.length ≤ 100 ∧ PreP (y.1.1.ts, y.2.1, false)) (fun _ => rBl true)
theorem ok__law_critical_right (T : Tp K mg) {fd : FuncData} (F : FunD K "_law_critical_right" "_law_critical_right" (defArgs (top 87)) (defBody (top 87)) (defScope (top 87)) [] [] (He.ga K "_law_critical_right") fd) : FnOk P w K mg base CX0 13 (He.ga K "_law_critical_right") fd ["net", "network", "sets", "by_name"] (spCritR K) := by
  have sc : FnScope ["net", "network", "sets", "by_name", "due", "pair", "small", "told", "some"] ["net", "network", "sets", "by_name"] (defScope (top 87)) := ⟨rfl, rfl, rfl, by decide +kernel, rfl, by decide +kernel, by decide +kernel⟩
  have c__law_less := c__law_less (P := P) (w := w) (base := base) T
  have c__law_cut := c__law_cut (P := P) (w := w) (base := base) T
  have c_critical := c_critical (P := P) (w := w) (base := base) T
  have c__law_same := c__law_same (P := P) (w := w) (base := base) T
  have kw_critical_0_sets_network := kw_critical_0_sets_network (P := P) (w := w) (base := base) T
  refine fn_prm F sc (fun _ => rfl) (fun _ => by first | exact List.nodup_nil | exact nd_fl | simp) fun cdv A outer s H E hr => ?_
  have hu := hu_of hr
  refine ⟨_, (pss_cons (ps_set (i := 4) sc.nd rfl (Or.inl rfl) (pe_lst pa_nil))
      (pss_cons (ps_for PassesOwn.never rfl (pi_list (pe_callB (cr_sortedDT (by rfl)) (by rfl) T.sorted boot_sorted (pa_cons (pe_ix ix_list (pv 0) pe_int (fun _ _ => rfl)) pa_nil))) (pg_name (i := 5) sc.nd rfl (Or.inl rfl)) (pss_cons (ps_set (i := 6) sc.nd rfl (Or.inr rfl) (pe_k c__law_less hr (by decide) (by rfl) (pa_cons (pv 0) (pa_cons (pv 5) (pa_cons pe_int pa_nil)))))
      (pss_one (ps_if (pt_cmpR (op_neD hr.units) (pe_lc (own := [("some", 8)]) (by rfl) sc.nd (pi_list (pv 2)) (blkOk_by (by kernel_rfl)) (fun _ _ _ _ _ => (pg_name (i := 8) sc.nd rfl (Or.inl rfl))) (fun _ _ _ _ _ => (pts_one (pt_cmpR op_lt (pe_k c__law_cut hr (by decide) (by rfl) (pa_cons (pv 6) (pa_cons (pv 8) pa_nil))) (pe_k c__law_cut hr (by decide) (by rfl) (pa_cons (pv 0) (pa_cons (pv 8) pa_nil))) (nomark _)))) (fun _ _ _ _ _ => (pv 8))) (pe_lst pa_nil) (nomark _)) (pss_one (ps_expr (pe_bm PySem.F.plainAttrs_list PySem.F.slot_list_append PySem.F.type_list_append mt_append (pv 4) (pa_cons (pe_op op_catA (pv 5) (pe_tup (pa_cons (pe_dget hu (pe_ix ix_list (pv 0) pe_int (fun _ _ => rfl)) (pv 5) (fun _ _ => rfl)) pa_nil))) pa_nil)))) pss_nil))))
      (pss_cons (ps_set (i := 7) sc.nd rfl (Or.inl rfl) (pe_ifExp (pt_val (pv 3)) (pe_kk0 kw_critical_0_sets_network hr (by decide) (by rfl) (pk_cons (pv 2) (pk_cons (pv 1) pk_nil))) (pe_k c_critical hr (by decide) (by rfl) (pa_cons (pv 1) (pa_cons (pe_callTy call_tuple_of (by rfl) T.tuple boot_tup (pa_cons (pv 2) pa_nil)) pa_nil)))))
      (pss_one (ps_ret (pe_k c__law_same hr (by decide) (by rfl) (pa_cons (pv 7) (pa_cons (pv 4) pa_nil)))))))), fun y hp => ?_⟩
  obtain ⟨⟨x, q⟩, ss, b⟩ := y
  obtain ⟨ok, hlen, hP⟩ := hp
  have ok : LwOk x := ok
  have hlen : x.ed.length ≤ 100 := hlen
  have hl : ss.length ≤ 20 := hP.1
  have hs : ∀ s ∈ ss, PartOk x.ts s := hP.2
  have ho := ord_ok x.ed
  have hol : (ordE x.ed).length ≤ 100 := by rw [ho.1.length_eq]; exact hlen
  refine hs_setN (en_lst ea_nil) (k := fun f => ?_)
  let I : Nat → Nxt := fun i t1 O1 W1 => ∃ (X : Os) (W' : List Addr) (o1 o2 : Option Rp), t1 = [some (rLn x q), some (rNet K x.cn), some (rLst (ss.map rTI)), some (rBl b), some (rRef f), o1, o2, none, none] ∧ O1 = X ++ [(f, .lst ((((ordE x.ed).take i).filter (critB x ss)).map fun e => rEd (ceE e))), (q, .dT (mP fI x.ed))] ∧ W1 = W' ++ [f]
  refine hs_for (src_lst (ev_ord (ed := x.ed) (n_ed (ev_var rfl)) (.inr ⟨q, rfl, .inl (List.mem_cons_of_mem _ List.mem_cons_self)⟩))) I ⟨[], [], _, _, rfl, rfl, rfl⟩ ?_ ?_
  · rintro i R t1 O1 W1 hR ⟨X, W', o1, o2, rfl, rfl, rfl⟩
    obtain ⟨e, he, rfl⟩ := map_get hR
    have hi : i < (ordE x.ed).length := (List.getElem?_eq_some_iff.mp he).1
    have hm : e ∈ x.ed := ho.1.mem_iff.mp (List.mem_of_getElem? he)
    have hkey : lk x.ed e.1 = some e.2 := lk_of_mem (ed_nd ok) hm
    have okf := fall_ok ok hkey (by omega) 1
    have hcount : ((((ordE x.ed).take i).filter (critB x ss)).map fun e => rEd (ceE e)).length ≤ 1000 := by
      rw [List.length_map]
      have h1 : (((ordE x.ed).take i).filter (critB x ss)).length ≤ ((ordE x.ed).take i).length := List.filter_sublist.length_le
      have h2 : ((ordE x.ed).take i).length ≤ (ordE x.ed).length := (List.take_sublist _ _).length_le
      omega
    refine ⟨_, _, tg_name, ?_⟩
    refine HT.weakO (O' := [(f, .lst ((((ordE x.ed).take i).filter (critB x ss)).map fun e => rEd (ceE e))), (q, .dT (mP fI x.ed))]) (W' := [f]) ?_ (fun e he => List.mem_append.mpr (.inr he)) (fun p hp => List.mem_append.mpr (.inr hp)) nd_app
    refine HT.eq (t' := [some (rLn x q), some (rNet K x.cn), some (rLst (ss.map rTI)), some (rBl b), some (rRef f), some (rKT (kP e.1)), o2, none, none]) (O' := [(f, .lst ((((ordE x.ed).take i).filter (critB x ss)).map fun e => rEd (ceE e))), (q, .dT (mP fI x.ed))]) ?_ rfl rfl rfl
    refine hs_setY ((x, q), e.1, 1) (ea_cons (ev_var rfl) (ea_cons (ev_var rfl) (ea_cons ev_c ea_nil))) ok (fun e he => by rw [List.mem_singleton.mp he]; exact List.mem_cons_of_mem _ List.mem_cons_self) (fun _ => rfl) fun z d hz => ?_
    have hz : z = x.fall e.1 1 := hz
    subst hz
    refine HT.eq (t' := [some (rLn x q), some (rNet K x.cn), some (rLst (ss.map rTI)), some (rBl b), some (rRef f), some (rKT (kP e.1)), some (rLn (x.fall e.1 1) d), none, none]) (O' := [(d, .dT (mP fI (x.fall e.1 1).ed)), (f, .lst ((((ordE x.ed).take i).filter (critB x ss)).map fun e => rEd (ceE e))), (q, .dT (mP fI x.ed))]) ?_ rfl rfl rfl
    refine ht_if (c := critB x ss e) (EvB.to (eb_test (ev_op (ev_lc (xs := ss) (c := fun s => decide (vOf (x.fall e.1 1).nw s < vOf x.nw s)) (f := rTI) (r := rTI) (src_lst (ev_var rfl)) (small (by omega)) fun s hm => ⟨_, _, tg_name, by simp, eb_test (ev_op (ev_call ((x.fall e.1 1, d), s) (ea_cons (ev_var rfl) (ea_cons (ev_var rfl) ea_nil)) ⟨okf, hs s hm⟩) (ev_call ((x, q), s) (ea_cons (ev_var rfl) (ea_cons (ev_var rfl) ea_nil)) ⟨ok, hs s hm⟩) vo_I0), fun _ => ev_var rfl⟩) (ev_lst ea_nil) vo_neLL0)) rfl) (fun ht => ?_) fun hf => ?_
    · refine ht_append (k := 1) (R := rEd (ceE e)) (ev_var rfl) (EvT.to (R := rTup ([rInt e.1.1, rInt e.1.2] ++ [rInt e.2])) (ev_op (ev_var rfl) (ev_tup (ea_cons (ev_dgetT (r := mP fI x.ed) (k := kP e.1) (R := rInt e.2) (n_ed (ev_var rfl)) (.inr ⟨q, rfl, .inl (by simp)⟩) (ev_var rfl) (by rw [lk_mP, hkey]; rfl)) ea_nil)) (vo_catT (lineBig' (by simp)))) rfl) rfl (.inl (by simp)) (lineBig (Nat.le_trans hcount (by decide))) ⟨[(d, .dT (mP fI (x.fall e.1 1).ed))], [d], some (rKT (kP e.1)), some (rLn (x.fall e.1 1) d), rfl, ?_, rfl⟩
      rw [snoc_take he, List.filter_append, List.filter_cons_of_pos ht, List.map_append]; rfl
    · refine ht_next ⟨[(d, .dT (mP fI (x.fall e.1 1).ed))], [d], some (rKT (kP e.1)), some (rLn (x.fall e.1 1) d), rfl, ?_, rfl⟩
      rw [snoc_take he, List.filter_append, List.filter_cons_of_neg (by rw [hf]; simp), List.filter_nil, List.append_nil]; rfl
  · rintro t1 O1 W1 ⟨X, W', o1, o2, rfl, rfl, rfl⟩
    rw [List.length_map, List.take_length]
    refine HT.weakO (O' := [(f, .lst (((ordE x.ed).filter (critB x ss)).map fun e => rEd (ceE e))), (q, .dT (mP fI x.ed))]) (W' := [f]) ?_ (fun e he => List.mem_append.mpr (.inr he)) (fun p hp => List.mem_append.mpr (.inr hp)) nd_app
    have eC := crit_eq ok hlen hs
    have hcl : (critE x.cn ss).length ≤ 1000 := by
      rw [eC, List.length_map]
      exact Nat.le_trans List.filter_sublist.length_le (by omega)
    refine hs_set (R := rLst ((critE x.cn ss).map rEd)) (ev_if (eb_b (ev_var rfl)) (fun _ => ev_callN (x.cn, ss, false) ea_nil (ea_cons (ev_var rfl) (ea_cons (ev_var rfl) ea_nil)) rfl rfl (fun vs zs G h1 h2 => all2_kw [1, 0] h1 h2) ⟨cn_ok ok, hP⟩) fun _ => ev_call (x.cn, ss, true) (ea_cons (ev_var rfl) (ea_cons (ev_cb (ea_cons (ev_var rfl) ea_nil) vc_tupleL) ea_nil)) ⟨cn_ok ok, hl, hs⟩) ?_
    refine HT.freeze (p := f) (i := 4) (k := 0) (c := .lst (((ordE x.ed).filter (critB x ss)).map fun e => rEd (ceE e))) (rLst (((ordE x.ed).filter (critB x ss)).map fun e => rEd (ceE e))) rfl rfl (by simp) (fun o F' hF hok => oc_lst f o F' hF hok) ?_
    have eR : rLst ((critE x.cn ss).map rEd) = (Da.lst (daLL ((critE x.cn ss).map tr3))).rp := by
      rw [daLL_rp, List.map_map]; rfl
    refine ht_ret (ev_call (Da.lst (daLL ((critE x.cn ss).map tr3))) (ea_cons (EvT.to (ev_var rfl) eR) (ea_cons (EvT.to (ev_var rfl) (by rw [← eR, eC, List.map_map]; rfl)) ea_nil)) ?_) rfl
    unfold Flat
    refine ⟨by unfold daLL; simp only [List.length_map]; exact hcl, flats_all fun d hd => ?_⟩
    unfold daLL at hd
    obtain ⟨l, hl, rfl⟩ := List.mem_map.mp hd
    obtain ⟨e, _, rfl⟩ := List.mem_map.mp hl
    exact flat_tup (by unfold tr3; simp)
theorem c__law_critical_right (T : Tp K mg) : Kal P w K mg base 13 "_law_critical_right" ["net", "network", "sets", "by_name"] (spCritR K) := by
  obtain ⟨⟨fd, F⟩, hm⟩ := T.at_ 63 "_law_critical_right" 87
  exact kal_of F hm (ok__law_critical_right T F) (fun _ _ _ _ _ _ us hl => match us, hl with | [_, _, _, _], _ => rfl)
end
end K96
set_option Elab.async false
set_option linter.all false
set_option maxRecDepth 100000
set_option maxHeartbeats 4000000
/-! law k96: the law. Own work. -/
namespace K96
open PySem PySem.Spec L2 Rz Cut
section
variable {P : Program} {w : World} {K : PySem.W.Frag} {mg : Str → Option Value} {base : Heap}
def PfP (ts : List Int) (ss : List (List Int)) : Prop := (∀ s ∈ ss, PartOk ts s) ∧ 1 ≤ ss.length ∧ ss.length ≤ 4
theorem ez_sets {t : Tys} {O : Os} {p q : Addr} {x : Lw} {tb tn : TE} {E F : XK} (ok : LwOk x) (h1 : EvT t O tb (rRef p)) (h2 : EvT t O tn (rLn x q)) : EvZ p boxC t O (tSl (rSlL K) (tCall spMixed [] E (tCons tb (tCons (tCall spSetsL [] F (tCons tn tNil)) tNil))) tNoPart (tPart (tC (.int 4)))) (rEx (PfP x.ts) fun ss => rLst (ss.map rTI)) := by
  have h3 : EvT t O (tCall spSetsL [] F (tCons tn tNil)) (rEx (PfS x.ts) fun ss => rLst (ss.map rTI)) := ev_call (x, q) (ea_cons h2 ea_nil) ok
  have h4 : EvZ p boxC t O (tCall spMixed [] E (tCons tb (tCons (tCall spSetsL [] F (tCons tn tNil)) tNil))) (rEx (fun Rs : List Rp => ∃ ss, PfS x.ts ss ∧ Rs = ss.map rTI) fun Rs => rEx (fun ss => ss.Perm Rs) rLst) :=
    ez_callMZ (Ra := [rRef p, rEx (PfS x.ts) fun ss => rLst (ss.map rTI)]) (eaz_of (ea_cons h1 (ea_cons h3 ea_nil))) (fun vs G h => by
      match vs, h with
      | [v1, v2], ⟨g1, ⟨ss, hss, g2⟩, _⟩ => exact ⟨ss.map rTI, ⟨ss, hss, rfl⟩, g1, g2, trivial⟩) (fun _ _ => rfl) (fun Rs ⟨ss, hss, e⟩ => by
      have := hss.2.2
      show Rs.length ≤ 1000
      rw [e, List.length_map]; omega) (fun _ _ _ h => h) (fun _ _ e he => by simp at he) (fun _ _ => List.nodup_nil) (fun _ _ e he => by simp at he)
  have h5 : EvZ p boxC t O (tCall spMixed [] E (tCons tb (tCons (tCall spSetsL [] F (tCons tn tNil)) tNil))) (rEx (fun Rs : List Rp => ∃ ss, PfS x.ts ss ∧ Rs = ss.map rTI) rLst) := h4.sub fun v G ⟨Rs, ⟨ss, hss, e⟩, Rs', hp, hv⟩ => by
    obtain ⟨l, hl, e2⟩ := perm_map_inv hp ss e
    exact ⟨Rs', ⟨l, ⟨fun s hs => hss.1 s (hl.mem_iff.mp hs), by rw [hl.length_eq]; exact hss.2.1, by rw [hl.length_eq]; exact hss.2.2⟩, e2⟩, hv⟩
  exact (ez_toL (K := K) (j := 4) h5 ev_c rfl (Rs := [])).sub fun v G ⟨Rs, ⟨ss, hss, e⟩, hv⟩ => by
    have hv : (rLst (Rs.take 4)).p v G := hv
    rw [e, ← List.map_take] at hv
    refine ⟨ss.take 4, ⟨fun s hs => hss.1 s ((List.take_sublist _ _).subset hs), ?_, ?_⟩, hv⟩
    · rw [List.length_take]; have := hss.2.1; omega
    · rw [List.length_take]; omega
abbrev spLaw (K : PySem.W.Frag) : Sp := Prm (fun ns : List Int => [rScr K ns]) (fun _ => []) (fun ns => ns.length ≤ 63) (fun _ => rBl true)
theorem ok_law (T : Tp K mg) {fd : FuncData} (F : FunD K "law" "law" (defArgs (top 88)) (defBody (top 88)) (defScope (top 88)) [] [] (He.ga K "law") fd) : FnOk P w K mg base CX0 14 (He.ga K "law") fd ["script"] (spLaw K) := by
  have sc : FnScope ["script", "k", "box", "by_name", "directed", "net", "network", "sets", "pairs", "j"] ["script"] (defScope (top 88)) := ⟨rfl, rfl, rfl, by decide +kernel, rfl, by decide +kernel, by decide +kernel⟩
  have c__law_box := c__law_box (P := P) (w := w) (base := base) T
  have c__law_cell := c__law_cell (P := P) (w := w) (base := base) T
  have c__law_take := c__law_take (P := P) (w := w) (base := base) T
  have c__law_net := c__law_net (P := P) (w := w) (base := base) T
  have c__law_network := c__law_network (P := P) (w := w) (base := base) T
  have c__law_mixed := c__law_mixed (P := P) (w := w) (base := base) T
  have c__law_sets := c__law_sets (P := P) (w := w) (base := base) T
  have c__law_fall_right := c__law_fall_right (P := P) (w := w) (base := base) T
  have c__law_critical_right := c__law_critical_right (P := P) (w := w) (base := base) T
  refine fn_prm F sc (fun _ => rfl) (fun _ => by first | exact List.nodup_nil | exact nd_fl | simp) fun cdv A outer s H E hr => ?_
  refine ⟨_, (pss_cons (ps_for PassesOwn.never rfl (pi_range1 (by rfl) T.range (pa_cons (pe_callB (call_max2 rfl) (by rfl) T.max boot_max (pa_cons pe_int (pa_cons (pe_callB (call_min2 rfl) (by rfl) T.min boot_min (pa_cons pe_int (pa_cons (pe_callB call_len_seq (by rfl) T.len PySem.boot_len (pa_cons (pv 0) pa_nil)) pa_nil))) pa_nil))) pa_nil)) (pg_name (i := 1) sc.nd rfl (Or.inl rfl)) (pss_cons (ps_set (i := 2) sc.nd rfl (Or.inl rfl) (pe_k c__law_box hr (by decide) (by rfl) (pa_cons (pe_k c__law_cell hr (by decide) (by rfl) (pa_cons (pv 0) (pa_cons (pv 1) pa_nil))) pa_nil)))
      (pss_cons (ps_par (i := 3) (j := 4) (by rfl) sc.nd rfl rfl (by decide) rfl rfl (pa_cons (pe_cmpR op_eq (pe_k c__law_take hr (by decide) (by rfl) (pa_cons (pv 2) (pa_cons pe_int pa_nil))) pe_int (nomark _)) (pa_cons (pe_cmpR op_eq (pe_k c__law_take hr (by decide) (by rfl) (pa_cons (pv 2) (pa_cons pe_int pa_nil))) pe_int (nomark _)) pa_nil)) (by rfl))
      (pss_cons (ps_set (i := 5) sc.nd rfl (Or.inl rfl) (pe_k c__law_net hr (by decide) (by rfl) (pa_cons (pv 2) (pa_cons (pe_op op_add pe_int (pe_k c__law_take hr (by decide) (by rfl) (pa_cons (pv 2) (pa_cons pe_int pa_nil)))) (pa_cons (pe_k c__law_take hr (by decide) (by rfl) (pa_cons (pv 2) (pa_cons pe_int pa_nil))) (pa_cons pe_int (pa_cons (pv 4) pa_nil)))))))
      (pss_cons (ps_par (i := 6) (j := 7) (by rfl) sc.nd rfl rfl (by decide) rfl rfl (pa_cons (pe_k c__law_network hr (by decide) (by rfl) (pa_cons (pv 2) (pa_cons (pv 5) pa_nil))) (pa_cons (pe_slice sl_list (pe_k c__law_mixed hr (by decide) (by rfl) (pa_cons (pv 2) (pa_cons (pe_k c__law_sets hr (by decide) (by rfl) (pa_cons (pv 5) pa_nil)) pa_nil))) po_none (po_some pe_int)) pa_nil)) (by rfl))
      (pss_cons (ps_set (i := 8) sc.nd rfl (Or.inl rfl) (pe_k c__law_mixed hr (by decide) (by rfl) (pa_cons (pv 2) (pa_cons (pe_callB (cr_sortedDT (by rfl)) (by rfl) T.sorted boot_sorted (pa_cons (pe_ix ix_list (pv 5) pe_int (fun _ _ => rfl)) pa_nil)) pa_nil))))
      (pss_cons (ps_for PassesOwn.never rfl (pi_range1 (by rfl) T.range (pa_cons (pe_callB (call_min2 rfl) (by rfl) T.min boot_min (pa_cons pe_int (pa_cons (pe_callB call_len_seq (by rfl) T.len PySem.boot_len (pa_cons (pv 8) pa_nil)) pa_nil))) pa_nil)) (pg_name (i := 9) sc.nd rfl (Or.inl rfl)) (pss_one (ps_if (pt_not (pt_val (pe_k c__law_fall_right hr (by decide) (by rfl) (pa_cons (pv 2) (pa_cons (pv 5) (pa_cons (pv 6) (pa_cons (pe_ix ix_list (pv 7) (pe_op op_mod (pe_callTy call_int1 (by rfl) T.int boot_int (pa_cons (pv 9) pa_nil)) (pe_callB call_len_seq (by rfl) T.len PySem.boot_len (pa_cons (pv 7) pa_nil))) (fun _ _ => rfl)) (pa_cons (pe_ix ix_list (pv 8) (pv 9) (fun _ _ => rfl)) (pa_cons (pe_cmpR op_eq (pe_cmpR op_eq (pv 9) pe_int (nomark _)) (pv 3) (nomark _)) pa_nil))))))))) (pss_one (ps_ret pe_bl)) pss_nil)))
      (pss_one (ps_if (PW.pt (pw_or (pt_not (pt_val (pe_k c__law_critical_right hr (by decide) (by rfl) (pa_cons (pv 5) (pa_cons (pv 6) (pa_cons (pv 7) (pa_cons (pv 3) pa_nil))))))) (pw_or1 (pt_not (pt_val (pe_k c__law_critical_right hr (by decide) (by rfl) (pa_cons (pv 5) (pa_cons (pv 6) (pa_cons (pe_slice sl_list (pv 7) po_none (po_some pe_int)) (pa_cons (pe_not (pv 3)) pa_nil)))))))))) (pss_one (ps_ret pe_bl)) pss_nil)))))))))
      (pss_one (ps_ret pe_bl))), fun ns hp => ?_⟩
  have hp : ns.length ≤ 63 := hp
  let I : Nat → Nxt := fun i t1 O1 W1 => ∃ (o1 o2 o3 o4 o5 o6 o7 o8 o9 : Option Rp), t1 = [some (rScr K ns), o1, o2, o3, o4, o5, o6, o7, o8, o9]
  refine hs_for (src_range1 (ea_cons (ev_cb (ea_cons ev_c (ea_cons (ev_cb (ea_cons ev_c (ea_cons (ev_cb (ea_cons (ev_var rfl) ea_nil) vc_lenScr) ea_nil)) vc_min2) ea_nil)) vc_max2) ea_nil) (by split <;> split <;> omega) (by split <;> split <;> omega)) I ⟨_, _, _, _, _, _, _, _, _, rfl⟩ ?_ ?_
  · rintro i R t1 O1 W1 hR ⟨o1, o2, o3, o4, o5, o6, o7, o8, o9, rfl⟩
    obtain ⟨hi, rfl⟩ := range_get hR
    refine ⟨_, _, tg_name, ?_⟩
    refine HT.weakO (O' := []) (W' := []) ?_ (by simp) (by simp) (fun _ => List.nodup_nil)
    refine HT.eq (t' := [some (rScr K ns), some (rInt (0 + (i : Int))), o2, o3, o4, o5, o6, o7, o8, o9]) ?_ rfl rfl rfl
    refine hs_setN (c := boxC) (en_callNE boxC (fun _ _ h => h) (ea_cons (ev_call (ns, 0 + (i : Int)) (ea_cons (ev_var rfl) (ea_cons (ev_var rfl) ea_nil)) (by show 0 ≤ 0 + (i : Int); omega)) ea_nil) fun vs G h => by
      obtain ⟨v, rfl, z, _, hz⟩ := all2_one h
      exact ⟨z, trivial, rfl, hz, trivial⟩) (k := fun p => ?_)
    refine HT.adopt ?_
    refine HT.eq (t' := [some (rScr K ns), some (rInt (0 + (i : Int))), some (rRef p), o3, o4, o5, o6, o7, o8, o9]) ?_ rfl rfl rfl
    refine hs_parZZ (k := 0) (P := fun _ : Bool => True) (Rb := fun b => rBl b) (Q := fun _ : Bool => True) (Rc := fun b => rBl b) (ez_op (ez_take (ev_var rfl) ev_c (by decide) (by decide)) (ez_of ev_c) (VO.exL fun d hd => VO.intro (decide (d = 1)) trivial vo_eqI)) (ez_op (ez_take (ev_var rfl) ev_c (by decide) (by decide)) (ez_of ev_c) (VO.exL fun d hd => VO.intro (decide (d = 0)) trivial vo_eqI)) rfl (by simp) (kk := fun bn dir _ _ => ?_)
    refine HT.eq (t' := [some (rScr K ns), some (rInt (0 + (i : Int))), some (rRef p), some (rBl bn), some (rBl dir), o5, o6, o7, o8, o9]) ?_ rfl rfl rfl
    refine hs_setXE (k := 0) (p := p) (c := boxC) (Z := fun z : ArgW => PreW z ∧ z.2.2.1 = 5) (Ra := [rRef p, rEx (fun i : Int => 2 ≤ i ∧ i ≤ 4) fun i => rInt i, rEx (fun i : Int => 0 ≤ i ∧ i ≤ 3) fun i => rInt i, rInt 5, rBl dir]) (eaz_cons (ez_of (ev_var rfl)) (eaz_cons (ez_op (ez_of ev_c) (ez_take (ev_var rfl) ev_c (by decide) (by decide)) (VO.exR fun d hd => VO.intro (2 + d) (by omega) vo_I0)) (eaz_cons ((ez_take (m := 4) (ev_var rfl) ev_c (by decide) (by decide)).sub fun v G ⟨d, hd, hv⟩ => ⟨d, by omega, hv⟩) (eaz_cons (ez_of ev_c) (eaz_cons (ez_of (ev_var rfl)) (eaz_of ea_nil)))))) (fun vs G h => ?_) rfl (by simp) (fun _ => rfl) (fun z hz => hz.1) rfl (fun _ _ => rfl) (kk := fun z x q hz hx => ?_)
    · match vs, h with
      | [v1, v2, v3, v4, v5], ⟨h1, ⟨g, hg, h2⟩, ⟨m, hm, h3⟩, h4, h5, _⟩ => exact ⟨(g, m, 5, dir), ⟨⟨hg, hm, by show 1 ≤ (5 : Int) ∧ (5 : Int) ≤ 1000000; decide⟩, rfl⟩, h1, h2, h3, h4, h5, trivial⟩
    obtain ⟨ok, hdir, hcap, hlen⟩ := hx
    have hcap : ∀ e ∈ x.ed, 1 ≤ e.2 ∧ e.2 ≤ 5 := fun e he => by
      have := hcap e he
      rw [hz.2] at this; exact this
    refine HT.nd fun nd1 => ?_
    have hqp : q ≠ p := by
      have h := (List.nodup_cons.mp nd1).1
      simpa using h
    refine HT.eq (t' := [some (rScr K ns), some (rInt (0 + (i : Int))), some (rRef p), some (rBl bn), some (rBl dir), some (rLn x q), o6, o7, o8, o9]) (O' := [(q, .dT (mP fI x.ed)), (p, boxC)]) ?_ rfl rfl rfl
    refine hs_parZZ (k := 1) (P := fun _ : Unit => True) (Rb := fun _ => rNet K x.cn) (Q := PfP x.ts) (Rc := fun ss => rLst (ss.map rTI)) ((ez_callM (x, q) (eaz_of (ea_cons (ev_var rfl) (ea_cons (ev_var rfl) ea_nil))) rfl ok (fun _ h => h) (by simp) (by simp) (fun e he => by rw [List.mem_singleton.mp he]; exact hqp)).sub fun v G hv => ⟨(), trivial, hv⟩) (ez_sets ok (ev_var rfl) (ev_var rfl)) rfl (by simp) (kk := fun _ ss _ hss => ?_)
    have ho := ord_ok x.ed
    have hol : (ordE x.ed).length ≤ 100 := by rw [ho.1.length_eq]; exact hlen
    refine hs_setZE (k := 1) (P := fun l : PM => l.Perm (ordE x.ed)) (Rb := fun l => rLst (l.map fun e => rKT (kP e.1))) ((ez_mixed (ev_var rfl) (ev_ord (ed := x.ed) (n_ed (ev_var rfl)) (.inr ⟨q, rfl, .inl List.mem_cons_self⟩)) (by rw [List.length_map]; omega)).sub fun v G ⟨Rs, h1, hv⟩ => ?_) rfl (by simp) (kk := fun l hl => ?_)
    · obtain ⟨l, h3, rfl⟩ := perm_map_inv h1 (ordE x.ed) rfl
      exact ⟨l, h3, hv⟩
    have hl : l.Perm (ordE x.ed) := hl
    have hll : l.length ≤ 100 := by rw [hl.length_eq]; exact hol
    refine HT.eq (t' := [some (rScr K ns), some (rInt (0 + (i : Int))), some (rRef p), some (rBl bn), some (rBl dir), some (rLn x q), some (rNet K x.cn), some (rLst (ss.map rTI)), some (rLst (l.map fun e => rKT (kP e.1))), o9]) (O' := [(q, .dT (mP fI x.ed)), (p, boxC)]) ?_ rfl rfl rfl
    let J : Nat → Nxt := fun j t1 O1 W1 => ∃ (o : Option Rp), t1 = [some (rScr K ns), some (rInt (0 + (i : Int))), some (rRef p), some (rBl bn), some (rBl dir), some (rLn x q), some (rNet K x.cn), some (rLst (ss.map rTI)), some (rLst (l.map fun e => rKT (kP e.1))), o] ∧ O1 = [(q, .dT (mP fI x.ed)), (p, boxC)]
    refine hs_for (src_range1 (ea_cons (ev_cb (ea_cons ev_c (ea_cons (ev_cb (ea_cons (ev_var rfl) ea_nil) vc_lenL) ea_nil)) vc_min2) ea_nil) (by split <;> omega) (by rw [List.length_map]; split <;> omega)) J ⟨_, rfl, rfl⟩ ?_ ?_
    · rintro j R t1 O1 W1 hR ⟨o, rfl, rfl⟩
      obtain ⟨hj, rfl⟩ := range_get hR
      rw [List.length_map] at hj
      have hjl : j < l.length := by revert hj; split <;> omega
      refine ⟨_, _, tg_name, ?_⟩
      refine HT.eq (t' := [some (rScr K ns), some (rInt (0 + (i : Int))), some (rRef p), some (rBl bn), some (rBl dir), some (rLn x q), some (rNet K x.cn), some (rLst (ss.map rTI)), some (rLst (l.map fun e => rKT (kP e.1))), some (rInt (0 + (j : Int)))]) ?_ rfl rfl rfl
      have s1 := hss.2.1
      have r1 : 0 ≤ (0 + (j : Int)) % (ss.length : Int) := Int.emod_nonneg _ (by omega)
      have r2 : (0 + (j : Int)) % (ss.length : Int) < (ss.length : Int) := Int.emod_lt_of_pos _ (by omega)
      have hs1 : ((0 + (j : Int)) % (ss.length : Int)).toNat < ss.length := by omega
      have hm : l[j] ∈ x.ed := ho.1.mem_iff.mp (hl.mem_iff.mp (List.getElem_mem hjl))
      have hkey : lk x.ed l[j].1 = some l[j].2 := lk_of_mem (ed_nd ok) hm
      refine ht_ifZ (k := 1) (bp := fun v => v = false) (EbZ.imp (ebz_not (ebz_b (P := fun _ : Unit => True) (f := fun _ => true) ((ez_callM ((x, q), ss[((0 + (j : Int)) % (ss.length : Int)).toNat], (l[j].1, l[j].2), decide (L2.V.bl (decide ((0 + (j : Int)) = 2)) = L2.V.bl bn)) (eaz_of (ea_cons (ev_var rfl) (ea_cons (ev_var rfl) (ea_cons (ev_var rfl) (ea_cons (ev_op (ev_var rfl) (ev_op (ev_cb (ea_cons (ev_var rfl) ea_nil) vc_int) (EvT.to (ev_cb (ea_cons (ev_var rfl) ea_nil) vc_lenL) (by rw [List.length_map])) (vo_I (by omega))) (vo_ixL (j := ((0 + (j : Int)) % (ss.length : Int)).toNat) (by omega) (by rw [List.getElem?_map, List.getElem?_eq_getElem hs1]; rfl))) (ea_cons (ev_op (ev_var rfl) (ev_var rfl) (vo_ixL (j := j) (by omega) (by rw [List.getElem?_map, List.getElem?_eq_getElem hjl]; rfl))) (ea_cons (ev_op (ev_op (ev_var rfl) ev_c vo_eqI) (ev_var rfl) (vo_eq rfl)) ea_nil))))))) rfl ⟨ok, hlen, hss.1 _ (List.getElem_mem hs1), hkey, by have := (hcap _ hm).2; show l[j].2 ≤ 1000; omega⟩ (fun _ h => h) (by simp) (by simp) (fun e he => by rw [List.mem_singleton.mp he]; exact hqp)).sub fun v G hv => ⟨(), trivial, hv⟩))) fun v ⟨_, _, h⟩ => by cases v <;> simp_all) rfl (by simp) (h1 := fun h => by cases h) (h2 := fun _ => ht_next ⟨_, rfl, rfl⟩)
    · rintro t1 O1 W1 ⟨o, rfl, rfl⟩
      have hP : PreP (x.ts, ss, false) := ⟨by have := hss.2.2; show ss.length ≤ 20; omega, hss.1⟩
      have hP1 : PreP (x.ts, ss.take 1, false) := ⟨by show (ss.take 1).length ≤ 20; rw [List.length_take]; omega, fun s hs => hss.1 s ((List.take_sublist _ _).subset hs)⟩
      refine ht_ifNo (EvB.to (b := (!true || !true)) (eb_or (a := !true) (b := !true) (eb_not (eb_b (b := true) ?_)) fun _ => eb_not (eb_b (b := true) ?_)) rfl) ⟨_, _, _, _, _, _, _, _, _, rfl⟩
      · exact ev_call ((x, q), ss, bn) (ea_cons (ev_var rfl) (ea_cons (ev_var rfl) (ea_cons (ev_var rfl) (ea_cons (ev_var rfl) ea_nil)))) ⟨ok, hlen, hP⟩
      · exact ev_call ((x, q), ss.take 1, !bn) (ea_cons (ev_var rfl) (ea_cons (ev_var rfl) (ea_cons (EvT.to (R := rLst ((ss.map rTI).take 1)) (R' := rLst ((ss.take 1).map rTI)) (ev_toL (j := 1) (ev_var rfl) ev_c rfl) (by rw [List.map_take])) (ea_cons (ev_not (ev_var rfl)) ea_nil)))) ⟨ok, hlen, hP1⟩
  · rintro t1 O1 W1 ⟨o1, o2, o3, o4, o5, o6, o7, o8, o9, rfl⟩
    exact ht_ret ev_c rfl
theorem c_law (T : Tp K mg) : Kal P w K mg base 14 "law" ["script"] (spLaw K) := by
  obtain ⟨⟨fd, F⟩, hm⟩ := T.at_ 64 "law" 88
  exact kal_of F hm (ok_law T F) (fun _ _ _ _ _ _ us hl => match us, hl with | [_], _ => rfl)
end
theorem law_facts {P : Program} {w : World} {K : PySem.W.Frag} {h : Heap} {mg : Str → Option Value} {f : Addr} (KX : xtra K = true) (X : K.In h) (G : h.Ns mainGlobals mg) (hfa : mg ("law" : Str) = some (.ref f)) (c : He.SaysD fa fn K) :
    ∃ fd : FuncData, (∀ (s : Shared) (v : Value), BindsTo s fd ⟨[v], []⟩ [("script", v)]) ∧ ∀ base : Heap, K.In base → base.Ns mainGlobals mg → FnOk P w K mg base CX0 14 f fd ["script"] (spLaw K) := by
  have T := tp_of X G c KX
  obtain ⟨⟨fd, F⟩, hm⟩ := T.at_ 64 "law" 88
  have e := hfa.symm.trans hm
  cases e
  have b := FunD.bindsA (ps := ["script"]) F fun _ _ _ _ _ _ us hl => match us, hl with | [_], _ => rfl
  exact ⟨fd, fun s v => b s [v] rfl, fun base _ _ => ok_law T F⟩
theorem law_gives {K : PySem.W.Frag} (H : Hp) (a : Addr) (ns : List Int) (hl : ns.length ≤ 63) (hS : SqL K H a (ns.map L2.V.int)) : spLaw K [.ref a] H (fun v _ => v = .bl true) fun _ _ _ => False :=
  ⟨ns, H, hl, ⟨⟨a, rfl, hS⟩, trivial⟩, fun e he => by simp at he, Sub.refl H, fun v _ _ _ hv => hv⟩
end K96
set_option Elab.async false
set_option linter.all false
set_option maxRecDepth 100000
set_option maxHeartbeats 0
open PySem PySem.W PySem.Calls PyProof.Rows
theorem PySem.Challenge.cw_bordersalone_k96_whole_falls_undone_holds : PySem.Challenge.rw_bordersalone_k96_whole_falls_undone.Holds := by
  w_on; o_law
  refine HandSHeadRun.head_any (r := K96.R) (q := view K96.R.prog [88]) (H := K96.hk) (ob := K96.ob) (M := 8000) (loose := K96.loose) (d := HandSHeadRun.topDef K96.R.prog 88) (kwd := []) K96.ob_eq
    (by kernel_rfl) (fun s => by kernel_rfl) K96.run (by kernel_rfl) (by kernel_rfl) (by kernel_rfl) (by rfl) (by first | assumption | decide +kernel) (by decide +kernel) ⟨rfl, rfl, rfl, rfl, rfl, by decide +kernel⟩ ?hw ?hc
  case hw => w_witness2
  case hc =>
    refine L2.walk_ofE (l := PySem.Challenge.rw_bordersalone_k96_whole_falls_undone) (n := 63) (k := 14) (x := "script") (CX := L2.CX0) rfl (by decide) (by kernel_rfl) ⟨rfl, by decide, by decide⟩ ?F (fun _ _ _ _ z => z)
    intro w mg fa h Y G hmg0
    obtain ⟨K, KX, c, hx⟩ := Y
    have hmg : mg ("law" : PySem.Str) = some (.ref fa) := by
      have e : (HandSHeadRun.topDef K96.R.prog 88).name = ("law" : PySem.Str) := by kernel_rfl
      rw [← e]
      exact hmg0
    obtain ⟨fd, hb, hF⟩ := K96.law_facts (P := (PySem.Challenge.rw_bordersalone_k96_whole_falls_undone).prog) (w := w) hx KX G hmg c
    exact ⟨K, fd, K96.spLaw K, KX, hb, fun H a ns hl _ hS => K96.law_gives H a ns hl hS, hF⟩
