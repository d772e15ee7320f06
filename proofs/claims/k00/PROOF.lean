import PyProof.Rows.All
import Wide.All
import OpenK.AllK
import Wide.FinOn
import HandS.Base
import HandS.Call
import HandS.List
import HandS.Comp
import HandS.Ends
import HandS.More
import HandS.Evl
import HandS.Wide
import HandS.WideBits
import HandS.IsInst
import HandS.Words
import HandS.WordsList
import HandS.Defaults
import HandS.Iter
import HandS.Head0
import HandS.Head1
import HandS.Head2
import HandS.HeadEnd
import HandS.HeadHook1
import HandS.HeadHook2
import PySem.Challenge.RW_coremill_k00_pieces_and_bytes
set_option Elab.async false
set_option linter.all false
set_option maxRecDepth 100000
set_option maxHeartbeats 4000000
namespace Cm
open PySem PySem.Spec PyProof.Rows L2 Evl

/-! ## data: what a value stands for -/
inductive D where
  | non | bl (b : Bool) | int (i : Int) | str (s : Str) | raw (a : Addr) | ty (n : String)
  | lst (ds : List D) | tup (ds : List D) | ins (C : Addr) (fs : List (Str × D)) | dct (ds : List (Key × D))

mutual
inductive Is (K : PySem.W.Frag) (H : Hp) : V → D → Prop
  | non : Is K H .non .non
  | bl (b : Bool) : Is K H (.bl b) (.bl b)
  | int (i : Int) : Is K H (.int i) (.int i)
  | str (x : Str) : Is K H (.str x) (.str x)
  | raw (a : Addr) : Is K H (.ref a) (.raw a)
  | ty (n : String) : Is K H (.ty n) (.ty n)
  | lst {a : Addr} {xs : List V} {ds : List D} : SqL K H a xs → IsA K H xs ds → Is K H (.ref a) (.lst ds)
  | tup {a : Addr} {xs : List V} {ds : List D} : SqT K H a xs → IsA K H xs ds → Is K H (.ref a) (.tup ds)
  | ins {a C dx : Addr} {xs : List (Str × V)} {ds : List (Str × D)} : H a = some (.ins C dx xs) → IsF K H xs ds → Is K H (.ref a) (.ins C ds)
  | dct {a : Addr} {xs : List (Key × V)} {ds : List (Key × D)} : H a = some (.dK xs) → IsK K H xs ds → Is K H (.ref a) (.dct ds)
inductive IsA (K : PySem.W.Frag) (H : Hp) : List V → List D → Prop
  | nil : IsA K H [] []
  | cons {v : V} {vs : List V} {d : D} {ds : List D} : Is K H v d → IsA K H vs ds → IsA K H (v :: vs) (d :: ds)
inductive IsF (K : PySem.W.Frag) (H : Hp) : List (Str × V) → List (Str × D) → Prop
  | nil : IsF K H [] []
  | cons {f : Str} {v : V} {vs : List (Str × V)} {d : D} {ds : List (Str × D)} : Is K H v d → IsF K H vs ds → IsF K H ((f, v) :: vs) ((f, d) :: ds)
inductive IsK (K : PySem.W.Frag) (H : Hp) : List (Key × V) → List (Key × D) → Prop
  | nil : IsK K H [] []
  | cons {f : Key} {v : V} {vs : List (Key × V)} {d : D} {ds : List (Key × D)} : Is K H v d → IsK K H vs ds → IsK K H ((f, v) :: vs) ((f, d) :: ds)
end

section
variable {K : PySem.W.Frag} {G H H' : Hp}
mutual
theorem Is.mono (e : Ex H H') : ∀ {v : V} {d : D}, Is K H v d → Is K H' v d
  | _, _, .non => .non
  | _, _, .bl b => .bl b
  | _, _, .int i => .int i
  | _, _, .str x => .str x
  | _, _, .raw a => .raw a
  | _, _, .ty n => .ty n
  | _, _, .lst h k => .lst (ex_l e h) (IsA.mono e k)
  | _, _, .tup h k => .tup (ex_t e h) (IsA.mono e k)
  | _, _, .ins h k => .ins (e _ _ h) (IsF.mono e k)
  | _, _, .dct h k => .dct (e _ _ h) (IsK.mono e k)
theorem IsA.mono (e : Ex H H') : ∀ {v : List V} {d : List D}, IsA K H v d → IsA K H' v d
  | _, _, .nil => .nil
  | _, _, .cons h k => .cons (Is.mono e h) (IsA.mono e k)
theorem IsF.mono (e : Ex H H') : ∀ {v : List (Str × V)} {d : List (Str × D)}, IsF K H v d → IsF K H' v d
  | _, _, .nil => .nil
  | _, _, .cons h k => .cons (Is.mono e h) (IsF.mono e k)
theorem IsK.mono (e : Ex H H') : ∀ {v : List (Key × V)} {d : List (Key × D)}, IsK K H v d → IsK K H' v d
  | _, _, .nil => .nil
  | _, _, .cons h k => .cons (Is.mono e h) (IsK.mono e k)
end
theorem IsA.length : ∀ {v : List V} {d : List D}, IsA K H v d → v.length = d.length
  | _, _, .nil => rfl
  | _, _, .cons _ k => congrArg (· + 1) (IsA.length k)
theorem IsA.get : ∀ {v : List V} {d : List D} {i : Nat} {x : D}, IsA K H v d → d[i]? = some x → ∃ u, v[i]? = some u ∧ Is K H u x
  | _, _, _, _, .nil, e => by simp at e
  | _, _, 0, _, .cons h _, e => by simp at e; subst e; exact ⟨_, rfl, h⟩
  | _, _, i + 1, _, .cons _ k, e => by
    obtain ⟨u, h1, h2⟩ := IsA.get (i := i) k (by simpa using e)
    exact ⟨u, by simpa using h1, h2⟩
theorem IsA.getV : ∀ {v : List V} {d : List D} {i : Nat} {u : V}, IsA K H v d → v[i]? = some u → ∃ x, d[i]? = some x ∧ Is K H u x
  | _, _, _, _, .nil, e => by simp at e
  | _, _, 0, _, .cons h _, e => by simp at e; subst e; exact ⟨_, rfl, h⟩
  | _, _, i + 1, _, .cons _ k, e => by
    obtain ⟨u, h1, h2⟩ := IsA.getV (i := i) k (by simpa using e)
    exact ⟨u, by simpa using h1, h2⟩
theorem IsA.append : ∀ {v w : List V} {d e : List D}, IsA K H v d → IsA K H w e → IsA K H (v ++ w) (d ++ e)
  | _, _, _, _, .nil, h => h
  | _, _, _, _, .cons h k, h' => .cons h (IsA.append k h')
theorem IsA.one {v : V} {d : D} (h : Is K H v d) : IsA K H [v] [d] := .cons h .nil
theorem IsA.snoc {vs : List V} {ds : List D} {v : V} {d : D} (h : IsA K H vs ds) (k : Is K H v d) : IsA K H (vs ++ [v]) (ds ++ [d]) := h.append (.one k)
theorem IsA.take : ∀ {v : List V} {d : List D} (n : Nat), IsA K H v d → IsA K H (v.take n) (d.take n)
  | _, _, 0, _ => .nil
  | _, _, _ + 1, .nil => .nil
  | _, _, n + 1, .cons h k => .cons h (IsA.take n k)
theorem IsA.drop : ∀ {v : List V} {d : List D} (n : Nat), IsA K H v d → IsA K H (v.drop n) (d.drop n)
  | _, _, 0, h => h
  | _, _, _ + 1, .nil => .nil
  | _, _, n + 1, .cons _ k => IsA.drop n k
theorem IsA.set {u : V} {x : D} (hu : Is K H u x) : ∀ {v : List V} {d : List D} (n : Nat), IsA K H v d → IsA K H (v.set n u) (d.set n x)
  | _, _, _, .nil => .nil
  | _, _, 0, .cons _ k => .cons hu k
  | _, _, n + 1, .cons h k => .cons h (IsA.set hu n k)
theorem IsA.ints : ∀ (ns : List Int), IsA K H (ns.map V.int) (ns.map D.int)
  | [] => .nil
  | n :: r => .cons (.int n) (IsA.ints r)
theorem IsA.toInts : ∀ {v : List V} {ns : List Int}, IsA K H v (ns.map D.int) → v = ns.map V.int
  | _, [], .nil => rfl
  | _, n :: r, .cons h k => by
    cases h
    rw [IsA.toInts k, List.map_cons]
theorem IsA.strs : ∀ (ns : List Str), IsA K H (ns.map V.str) (ns.map D.str)
  | [] => .nil
  | n :: r => .cons (.str n) (IsA.strs r)
theorem IsA.toStrs : ∀ {v : List V} {ns : List Str}, IsA K H v (ns.map D.str) → v = ns.map V.str
  | _, [], .nil => rfl
  | _, n :: r, .cons h k => by
    cases h
    rw [IsA.toStrs k, List.map_cons]
theorem IsA.cons_inv {vs : List V} {d : D} {ds : List D} (h : IsA K H vs (d :: ds)) : ∃ v r, vs = v :: r ∧ Is K H v d ∧ IsA K H r ds := by
  cases h with
  | cons h k => exact ⟨_, _, rfl, h, k⟩
theorem IsA.nil_inv {vs : List V} (h : IsA K H vs []) : vs = [] := by cases h; rfl
theorem Is.int_inv {v : V} {i : Int} (h : Is K H v (.int i)) : v = .int i := by cases h; rfl
theorem Is.bl_inv {v : V} {b : Bool} (h : Is K H v (.bl b)) : v = .bl b := by cases h; rfl
theorem Is.str_inv {v : V} {b : Str} (h : Is K H v (.str b)) : v = .str b := by cases h; rfl
theorem Is.non_inv {v : V} (h : Is K H v .non) : v = .non := by cases h; rfl
theorem Is.lst_inv {v : V} {ds : List D} (h : Is K H v (.lst ds)) : ∃ a xs, v = .ref a ∧ SqL K H a xs ∧ IsA K H xs ds := by
  cases h with
  | lst h k => exact ⟨_, _, rfl, h, k⟩
theorem Is.tup_inv {v : V} {ds : List D} (h : Is K H v (.tup ds)) : ∃ a xs, v = .ref a ∧ SqT K H a xs ∧ IsA K H xs ds := by
  cases h with
  | tup h k => exact ⟨_, _, rfl, h, k⟩
end

/-! ## the base, and what is owned beside it -/
structure Own (K : PySem.W.Frag) (G H : Hp) (os : List (Addr × HO)) : Prop where
  ex : Ex G H
  at_ : ∀ p ∈ os, H p.1 = some p.2
  out : ∀ p ∈ os, G p.1 = none
  nd : (os.map (·.1)).Nodup

section
variable {K : PySem.W.Frag} {G G' H H' : Hp} {os : List (Addr × HO)} {l : Addr} {o : HO}
theorem Own.start {H : Hp} : Own K H H [] := ⟨Ex.refl H, fun _ h => by simp at h, fun _ h => by simp at h, List.nodup_nil⟩
/-- a smaller base -/
theorem Own.weak (h : Own K G' H os) (e : Ex G G') : Own K G H os := ⟨e.trans h.ex, h.at_, fun p hp => fresh_back e (h.out p hp), h.nd⟩
/-- a new object joins the base -/
theorem Own.new (h : Own K G H os) (hn : H l = none) : Own K (upd G l o) (upd H l o) os := by
  refine ⟨fun a u e => ?_, fun p hp => ?_, fun p hp => ?_, h.nd⟩
  · by_cases q : a = l
    · subst q; rw [upd_same] at e ⊢; exact e
    · rw [upd_ne q] at e ⊢; exact h.ex a u e
  · rw [upd_ne (ne_of_none (h.at_ p hp) hn)]; exact h.at_ p hp
  · rw [upd_ne (ne_of_none (h.at_ p hp) hn)]; exact h.out p hp
theorem Own.freshG (h : Own K G H os) (hn : H l = none) : G l = none := fresh_back h.ex hn
theorem Own.newEx (h : Own K G H os) (hn : H l = none) : Ex G (upd G l o) := Ex.new (h.freshG hn)
/-- a new object is owned -/
theorem Own.add (h : Own K G H os) (hn : H l = none) : Own K G (upd H l o) ((l, o) :: os) := by
  refine ⟨h.ex.trans (Ex.new hn), fun p hp => ?_, fun p hp => ?_, ?_⟩
  · rcases List.mem_cons.mp hp with q | q
    · subst q; exact upd_same
    · rw [upd_ne (ne_of_none (h.at_ p q) hn)]; exact h.at_ p q
  · rcases List.mem_cons.mp hp with q | q
    · subst q; exact h.freshG hn
    · exact h.out p q
  · rw [List.map_cons, List.nodup_cons]
    refine ⟨fun q => ?_, h.nd⟩
    obtain ⟨p, hp, e⟩ := List.mem_map.mp q
    have := h.at_ p hp
    rw [e, hn] at this
    cases this
/-- an owned object joins the base -/
theorem Own.freeze (h : Own K G H ((l, o) :: os)) : Own K (upd G l o) H os := by
  have nd := h.nd
  rw [List.map_cons, List.nodup_cons] at nd
  refine ⟨fun a u e => ?_, fun p hp => h.at_ p (List.mem_cons_of_mem _ hp), fun p hp => ?_, nd.2⟩
  · by_cases q : a = l
    · subst q; rw [upd_same] at e; cases e; exact h.at_ (a, o) (List.mem_cons_self ..)
    · rw [upd_ne q] at e; exact h.ex a u e
  · have q : p.1 ≠ l := fun e => nd.1 (List.mem_map.mpr ⟨p, hp, e⟩)
    rw [upd_ne q]; exact h.out p (List.mem_cons_of_mem _ hp)
theorem Own.freezeEx (h : Own K G H ((l, o) :: os)) : Ex G (upd G l o) := Ex.new (h.out (l, o) (List.mem_cons_self ..))
/-- an owned object is forgotten -/
theorem Own.drop {p : Addr × HO} (h : Own K G H (p :: os)) : Own K G H os := by
  have nd := h.nd
  rw [List.map_cons, List.nodup_cons] at nd
  exact ⟨h.ex, fun p hp => h.at_ p (List.mem_cons_of_mem _ hp), fun p hp => h.out p (List.mem_cons_of_mem _ hp), nd.2⟩
theorem Own.dropN {qs : List (Addr × HO)} (h : Own K G H (qs ++ os)) : Own K G H os := by
  induction qs with
  | nil => exact h
  | cons p r ih => exact ih h.drop
theorem Own.perm {os' : List (Addr × HO)} (h : Own K G H os) (p : os.Perm os') : Own K G H os' :=
  ⟨h.ex, fun q hq => h.at_ q (p.mem_iff.mpr hq), fun q hq => h.out q (p.mem_iff.mpr hq), (p.map _).nodup_iff.mp h.nd⟩
theorem Own.swap {p q : Addr × HO} (h : Own K G H (p :: q :: os)) : Own K G H (q :: p :: os) := h.perm (List.Perm.swap ..)
/-- a frozen one is owned again (nothing but flat things has been made) -/
theorem Own.thaw (h : Own K (upd G l o) H os) (hn : G l = none) : Own K G H ((l, o) :: os) := by
  refine ⟨(Ex.new hn).trans h.ex, fun p hp => ?_, fun p hp => ?_, ?_⟩
  · rcases List.mem_cons.mp hp with q | q
    · subst q; exact h.ex _ _ upd_same
    · exact h.at_ p q
  · rcases List.mem_cons.mp hp with q | q
    · subst q; exact hn
    · exact fresh_back (Ex.new hn) (h.out p q)
  · rw [List.map_cons, List.nodup_cons]
    refine ⟨fun q => ?_, h.nd⟩
    obtain ⟨p, hp, e⟩ := List.mem_map.mp q
    have := h.out p hp
    rw [e, upd_same] at this
    cases this
/-- an owned object is changed -/
theorem Own.put0 {o' : HO} (h : Own K G H ((l, o) :: os)) : Own K G (upd H l o') ((l, o') :: os) := by
  have nd := h.nd
  rw [List.map_cons, List.nodup_cons] at nd
  refine ⟨h.ex.mut (h.out (l, o) (List.mem_cons_self ..)), fun p hp => ?_, fun p hp => ?_, h.nd⟩
  · rcases List.mem_cons.mp hp with q | q
    · subst q; exact upd_same
    · have z : p.1 ≠ l := fun e => nd.1 (List.mem_map.mpr ⟨p, q, e⟩)
      rw [upd_ne z]; exact h.at_ p (List.mem_cons_of_mem _ q)
  · rcases List.mem_cons.mp hp with q | q
    · subst q; exact h.out (l, o) (List.mem_cons_self ..)
    · exact h.out p (List.mem_cons_of_mem _ q)
theorem Own.put1 {o' : HO} {p : Addr × HO} (h : Own K G H (p :: (l, o) :: os)) : Own K G (upd H l o') (p :: (l, o') :: os) := (h.swap.put0 (o' := o')).swap
theorem Own.put {o' : HO} (h : Own K G H os) {j : Nat} (hj : os[j]? = some (l, o)) : Own K G (upd H l o') (os.set j (l, o')) := by
  induction os generalizing j with
  | nil => simp at hj
  | cons p r ih =>
    cases j with
    | zero =>
      simp at hj; subst hj
      exact h.put0
    | succ j =>
      have hj' : r[j]? = some (l, o) := by simpa using hj
      have k := ih h.drop hj'
      have nd := h.nd
      rw [List.map_cons, List.nodup_cons] at nd
      have z : p.1 ≠ l := fun e => nd.1 (by rw [e]; exact List.mem_map.mpr ⟨(l, o), List.mem_of_getElem? hj', rfl⟩)
      rw [List.set_cons_succ]
      refine ⟨k.ex, fun q hq => ?_, fun q hq => ?_, ?_⟩
      · rcases List.mem_cons.mp hq with e | e
        · subst e; rw [upd_ne z]; exact h.at_ q (List.mem_cons_self ..)
        · exact k.at_ q e
      · rcases List.mem_cons.mp hq with e | e
        · subst e; exact h.out q (List.mem_cons_self ..)
        · exact k.out q e
      · rw [List.map_cons, List.nodup_cons]
        refine ⟨fun q => nd.1 ?_, k.nd⟩
        obtain ⟨x, hx, e⟩ := List.mem_map.mp q
        rcases List.mem_or_eq_of_mem_set hx with y | y
        · rw [← e]; exact List.mem_map_of_mem y
        · subst y
          exact absurd e.symm z
theorem Own.here (h : Own K G H os) {j : Nat} (hj : os[j]? = some (l, o)) : H l = some o := h.at_ _ (List.mem_of_getElem? hj)
end

/-! ## evaluation -/
section
variable (K : PySem.W.Frag)
def EV (te : TE) (σ : L2.St) (G : Hp) (os : List (Addr × HO)) (d : D) : Prop :=
  ∀ G1, Ex G G1 → ∀ H, Own K G1 H os → ∀ Q : VK, (∀ v G' H', Ex G1 G' → Own K G' H' os → Is K G' v d → Q v H') → te σ H Q
def EA (ta : TA) (σ : L2.St) (G : Hp) (os : List (Addr × HO)) (ds : List D) : Prop :=
  ∀ G1, Ex G G1 → ∀ H, Own K G1 H os → ∀ Q : List V → Hp → Prop, (∀ v G' H', Ex G1 G' → Own K G' H' os → IsA K G' v ds → Q v H') → ta σ H Q
/-- a test (flat) -/
def ET (tt : TT) (σ : L2.St) (G : Hp) (os : List (Addr × HO)) (b : Bool) : Prop :=
  ∀ G1, Ex G G1 → ∀ H, Own K G1 H os → ∀ Q : Bool → Hp → Prop, (∀ H', Own K G1 H' os → Q b H') → tt σ H Q
/-- a two-place operation, a one-place one, a call of a built-in -/
def RB (r : R2) (x y z : D) : Prop := ∀ G H os v w, Own K G H os → Is K G v x → Is K G w y → ∀ Q : VK, (∀ u G' H', Ex G G' → Own K G' H' os → Is K G' u z → Q u H') → r v w H Q
def RU1 (r : V → Hp → VK → Prop) (x z : D) : Prop := ∀ G H os v, Own K G H os → Is K G v x → ∀ Q : VK, (∀ u G' H', Ex G G' → Own K G' H' os → Is K G' u z → Q u H') → r v H Q
def RC (r : List V → Hp → VK → Prop) (xs : List D) (z : D) : Prop := ∀ G H os vs, Own K G H os → IsA K G vs xs → ∀ Q : VK, (∀ u G' H', Ex G G' → Own K G' H' os → Is K G' u z → Q u H') → r vs H Q
end

section
variable {K : PySem.W.Frag} {σ : L2.St} {G G' H : Hp} {os : List (Addr × HO)} {ta tb te : TE} {t u : TT} {x y z d : D} {v : V} {r : R2}
theorem EV.mono (h : EV K te σ G os d) (e : Ex G G') : EV K te σ G' os d := fun G1 e1 => h G1 (e.trans e1)
theorem EA.mono {ta : TA} {ds : List D} (h : EA K ta σ G os ds) (e : Ex G G') : EA K ta σ G' os ds := fun G1 e1 => h G1 (e.trans e1)
theorem ev_var {i : Nat} (h : σ[i]? = some (some v)) (hv : Is K G v d) : EV K (tVar i) σ G os d := fun G1 e H hO _ q => ⟨v, h, q v G1 H (Ex.refl _) hO (hv.mono e)⟩
theorem ev_c (hv : ∀ G, Is K G v d) : EV K (tC v) σ G os d := fun G1 _ H hO _ q => q v G1 H (Ex.refl _) hO (hv _)
theorem ev_op (hr : RB K r x y z) (ha : EV K ta σ G os x) (hb : EV K tb σ G os y) : EV K (tOp r ta tb) σ G os z := fun G1 e H hO _ q =>
  ha G1 e H hO _ fun v G2 H2 e2 hO2 hv => hb G2 (e.trans e2) H2 hO2 _ fun w G3 H3 e3 hO3 hw => hr G3 H3 os v w hO3 (hv.mono e3) hw _ fun u G4 H4 e4 hO4 hu => q u G4 H4 ((e2.trans e3).trans e4) hO4 hu
theorem ev_un {r : V → Hp → VK → Prop} (hr : RU1 K r x z) (ha : EV K ta σ G os x) : EV K (tUn r ta) σ G os z := fun G1 e H hO _ q =>
  ha G1 e H hO _ fun v G2 H2 e2 hO2 hv => hr G2 H2 os v hO2 hv _ fun u G4 H4 e4 hO4 hu => q u G4 H4 (e2.trans e4) hO4 hu
theorem ea_nil : EA K tNil σ G os [] := fun G1 _ H hO _ q => q [] G1 H (Ex.refl _) hO .nil
theorem ea_cons {tr : TA} {ds : List D} (h : EV K ta σ G os x) (hr : EA K tr σ G os ds) : EA K (tCons ta tr) σ G os (x :: ds) := fun G1 e H hO _ q =>
  h G1 e H hO _ fun v G2 H2 e2 hO2 hv => hr G2 (e.trans e2) H2 hO2 _ fun w G3 H3 e3 hO3 hw => q _ G3 H3 (e2.trans e3) hO3 (.cons (hv.mono e3) hw)
theorem ev_cb {r : List V → Hp → VK → Prop} {ta : TA} {xs : List D} (hr : RC K r xs z) (ha : EA K ta σ G os xs) : EV K (tCB r ta) σ G os z := fun G1 e H hO _ q =>
  ha G1 e H hO _ fun v G2 H2 e2 hO2 hv => hr G2 H2 os v hO2 hv _ fun u G4 H4 e4 hO4 hu => q u G4 H4 (e2.trans e4) hO4 hu
theorem ev_is (h : EV K te σ G os d) (e : d = x) : EV K te σ G os x := e ▸ h
/-- displays -/
theorem ev_tup {ta : TA} {ds : List D} (h : EA K ta σ G os ds) (hz : ds.length ≤ 100000) : EV K (tTup ta) σ G os (.tup ds) := fun G1 e H hO _ q =>
  h G1 e H hO _ fun vs G2 H2 e2 hO2 hv => ⟨sz_of (by rw [hv.length]; exact hz), fun p hp => q (.ref p) (upd G2 p (.tup vs)) _ (e2.trans (hO2.newEx hp)) (hO2.new hp) (.tup (st_of upd_same) (hv.mono (hO2.newEx hp)))⟩
theorem ev_lst {ta : TA} {ds : List D} (h : EA K ta σ G os ds) (hz : ds.length ≤ 100000) : EV K (tLst ta) σ G os (.lst ds) := fun G1 e H hO _ q =>
  h G1 e H hO _ fun vs G2 H2 e2 hO2 hv => ⟨sz_of (by rw [hv.length]; exact hz), fun p hp => q (.ref p) (upd G2 p (.lst vs)) _ (e2.trans (hO2.newEx hp)) (hO2.new hp) (.lst (sq_of upd_same) (hv.mono (hO2.newEx hp)))⟩
/-- a flat value's rule -/
theorem rb_val {f : V} (hf : ∀ G, Is K G f z) (h : ∀ G H v w, Is K G v x → Is K G w y → Ex G H → ∀ Q : VK, Q f H → r v w H Q) : RB K r x y z := fun G H os v w hO hv hw Q q => h G H v w hv hw hO.ex Q (q f G H (Ex.refl _) hO (hf G))
theorem rb_ii {f : Int → Int → Int} {i j : Int} : RB K (rI0 fun i j => .int (f i j)) (.int i) (.int j) (.int (f i j)) := rb_val (fun _ => .int _) fun _ _ _ _ hv hw _ _ q => by
  cases hv; cases hw; exact ⟨i, j, rfl, rfl, q⟩
theorem rb_ib {f : Int → Int → Bool} {i j : Int} : RB K (rI0 fun i j => .bl (f i j)) (.int i) (.int j) (.bl (f i j)) := rb_val (fun _ => .bl _) fun _ _ _ _ hv hw _ _ q => by
  cases hv; cases hw; exact ⟨i, j, rfl, rfl, q⟩
theorem rb_ci {C : Int → Int → Prop} {f : Int → Int → Int} {i j : Int} (hc : C i j) : RB K (rI C fun i j => .int (f i j)) (.int i) (.int j) (.int (f i j)) := rb_val (fun _ => .int _) fun _ _ _ _ hv hw _ _ q => by
  cases hv; cases hw; exact ⟨i, j, rfl, rfl, hc, q⟩
theorem ru_i {f : Int → Int} {i : Int} : RU1 K (rU fun i => .int (f i)) (.int i) (.int (f i)) := fun G H os v hO hv Q q => by
  cases hv; exact ⟨i, rfl, q _ G H (Ex.refl _) hO (.int _)⟩
end

/-! ## more values -/
def flatD : D → Option V
  | .non => some .non
  | .bl b => some (.bl b)
  | .int i => some (.int i)
  | .str s => some (.str s)
  | .raw a => some (.ref a)
  | .ty n => some (.ty n)
  | _ => none
section
variable {K : PySem.W.Frag} {σ : L2.St} {G G' H : Hp} {os : List (Addr × HO)} {ta tb te : TE} {t u : TT} {x y z d : D} {v f : V} {r : R2}
theorem flat_inv (h : flatD d = some f) (k : Is K G v d) : v = f := by
  cases k <;> simp [flatD] at h <;> exact h
theorem flat_any (h : flatD d = some f) : Is K G f d := by
  cases d <;> simp [flatD] at h <;> subst h <;> constructor
/-- an owned list is read -/
theorem ev_own {l : Addr} {xs : List V} {ds : List D} (hx : IsA K G xs ds) (hf : flatD d = some f) (h : ∀ G', Ex G G' → Is K G' (.ref l) (.lst ds) → EV K te σ G' os d) : EV K te σ G ((l, .lst xs) :: os) d := fun G1 e H hO _ q => by
  have nl : G1 l = none := hO.out _ (List.mem_cons_self ..)
  have e1 : Ex G1 (upd G1 l (.lst xs)) := Ex.new nl
  refine h (upd G1 l (.lst xs)) (e.trans e1) (.lst (sq_of upd_same) (hx.mono (e.trans e1))) _ (Ex.refl _) H hO.freeze _ fun v G' H' e' hO' hv => ?_
  have := flat_inv hf hv
  subst this
  exact q _ G1 H' (Ex.refl _) ((hO'.weak e').thaw nl) (flat_any hf)
theorem ev_own1 {l : Addr} {xs : List V} {ds : List D} {p : Addr × HO} (hx : IsA K G xs ds) (hf : flatD d = some f) (h : ∀ G', Ex G G' → Is K G' (.ref l) (.lst ds) → EV K te σ G' (p :: os) d) : EV K te σ G (p :: (l, .lst xs) :: os) d := fun G1 e H hO Q q =>
  ev_own hx hf h G1 e H hO.swap Q fun v G' H' e' hO' hv => q v G' H' e' hO'.swap hv

/-! tests -/
theorem ET.mono {b : Bool} (h : ET K t σ G os b) (e : Ex G G') : ET K t σ G' os b := fun G1 e1 => h G1 (e.trans e1)
theorem et_tst {b : Bool} (h : EV K te σ G os (.bl b)) : ET K (tTest te) σ G os b := fun G1 e H hO _ q => h G1 e H hO _ fun v G' H' e hO' hv => by
  cases hv; exact ⟨b, rfl, q H' (hO'.weak e)⟩
theorem et_B {b : Bool} (h : EV K te σ G os (.bl b)) : ET K (tB te) σ G os b := fun G1 e H hO _ q => h G1 e H hO _ fun v G' H' e hO' hv => by
  cases hv; exact ⟨b, rfl, q H' (hO'.weak e)⟩
theorem et_not {a : Bool} (h : ET K t σ G os a) : ET K (tNot t) σ G os (!a) := fun G1 e H hO _ q => h G1 e H hO _ q
theorem et_and {a b : Bool} (h1 : ET K t σ G os a) (h2 : a = true → ET K u σ G os b) : ET K (tAnd t u) σ G os (a && b) := fun G1 e H hO Q q => h1 G1 e H hO _ fun H' hO' => by
  cases a with
  | true => exact iteT (h2 rfl G1 e H' hO' Q q)
  | false => exact iteF (q H' hO')
theorem et_or {a b : Bool} (h1 : ET K t σ G os a) (h2 : a = false → ET K u σ G os b) : ET K (tOr t u) σ G os (a || b) := fun G1 e H hO Q q => h1 G1 e H hO _ fun H' hO' => by
  cases a with
  | true => exact iteT (q H' hO')
  | false => exact iteF (h2 rfl G1 e H' hO' Q q)
theorem et_is {a b : Bool} (h : ET K t σ G os a) (e : a = b) : ET K t σ G os b := e ▸ h
theorem ev_notV {a : Bool} (h : EV K ta σ G os (.bl a)) : EV K (tNotV ta) σ G os (.bl (!a)) := fun G1 e H hO _ q => h G1 e H hO _ fun v G' H' e' hO' hv => by
  cases hv; exact ⟨a, rfl, q _ G' H' e' hO' (.bl _)⟩
theorem ev_andV {a b : Bool} (h1 : EV K ta σ G os (.bl a)) (h2 : a = true → EV K tb σ G os (.bl b)) : EV K (tAndV ta tb) σ G os (.bl (a && b)) := fun G1 e H hO Q q => h1 G1 e H hO _ fun v G' H' e' hO' hv => by
  cases hv
  refine ⟨a, rfl, ?_⟩
  cases a with
  | true => exact iteT (h2 rfl G' (e.trans e') H' hO' Q fun v G2 H2 e2 => q v G2 H2 (e'.trans e2))
  | false => exact iteF (q _ G' H' e' hO' (.bl _))
theorem ev_orV {a b : Bool} (h1 : EV K ta σ G os (.bl a)) (h2 : a = false → EV K tb σ G os (.bl b)) : EV K (tOrV ta tb) σ G os (.bl (a || b)) := fun G1 e H hO Q q => h1 G1 e H hO _ fun v G' H' e' hO' hv => by
  cases hv
  refine ⟨a, rfl, ?_⟩
  cases a with
  | true => exact iteT (q _ G' H' e' hO' (.bl _))
  | false => exact iteF (h2 rfl G' (e.trans e') H' hO' Q fun v G2 H2 e2 => q v G2 H2 (e'.trans e2))
/-- a if t else b -/
theorem ev_if {b : Bool} {d1 d2 : D} (h : ET K t σ G os b) (h1 : b = true → EV K ta σ G os d1) (h2 : b = false → EV K tb σ G os d2) : EV K (tIf t ta tb) σ G os (if b = true then d1 else d2) := fun G1 e H hO Q q => h G1 e H hO _ fun H' hO' => by
  cases b with
  | true => exact iteT (h1 rfl G1 e H' hO' Q fun v G2 H2 e2 hO2 hv => q v G2 H2 e2 hO2 hv)
  | false => exact iteF (h2 rfl G1 e H' hO' Q fun v G2 H2 e2 hO2 hv => q v G2 H2 e2 hO2 hv)
theorem ev_ifI {b : Bool} {i j : Int} (h : ET K t σ G os b) (h1 : b = true → EV K ta σ G os (.int i)) (h2 : b = false → EV K tb σ G os (.int j)) : EV K (tIf t ta tb) σ G os (.int (if b = true then i else j)) := ev_is (ev_if h h1 h2) (by cases b <;> rfl)

/-! operations -/
theorem rb_eqI {i j : Int} : RB K rEq (.int i) (.int j) (.bl (decide (i = j))) := rb_val (fun _ => .bl _) fun _ _ _ _ hv hw _ _ q => by
  cases hv; cases hw; exact ⟨rfl, by rw [show decide (V.int i = V.int j) = decide (i = j) by simp]; exact q⟩
theorem rb_neI {i j : Int} : RB K rNe (.int i) (.int j) (.bl (!decide (i = j))) := rb_val (fun _ => .bl _) fun _ _ _ _ hv hw _ _ q => by
  cases hv; cases hw; exact ⟨rfl, by rw [show decide (V.int i = V.int j) = decide (i = j) by simp]; exact q⟩
theorem rb_eqS {i j : Str} : RB K rEq (.str i) (.str j) (.bl (decide (i = j))) := rb_val (fun _ => .bl _) fun _ _ _ _ hv hw _ _ q => by
  cases hv; cases hw; exact ⟨rfl, by rw [show decide (V.str i = V.str j) = decide (i = j) by simp]; exact q⟩
theorem rb_neS {i j : Str} : RB K rNe (.str i) (.str j) (.bl (!decide (i = j))) := rb_val (fun _ => .bl _) fun _ _ _ _ hv hw _ _ q => by
  cases hv; cases hw; exact ⟨rfl, by rw [show decide (V.str i = V.str j) = decide (i = j) by simp]; exact q⟩
theorem rb_eqB {i j : Bool} : RB K rEq (.bl i) (.bl j) (.bl (decide (i = j))) := rb_val (fun _ => .bl _) fun _ _ _ _ hv hw _ _ q => by
  cases hv; cases hw; exact ⟨rfl, by rw [show decide (V.bl i = V.bl j) = decide (i = j) by simp]; exact q⟩
theorem rb_neB {i j : Bool} : RB K rNe (.bl i) (.bl j) (.bl (!decide (i = j))) := rb_val (fun _ => .bl _) fun _ _ _ _ hv hw _ _ q => by
  cases hv; cases hw; exact ⟨rfl, by rw [show decide (V.bl i = V.bl j) = decide (i = j) by simp]; exact q⟩
theorem atI_of {ds : List D} {xs : List V} {i : Int} {x : D} (h : IsA K G xs ds) (e : atI ds i = some x) : ∃ u, atI xs i = some u ∧ Is K G u x := by
  unfold atI at e ⊢
  rw [h.length]
  cases q : ixN ds.length i with
  | none => rw [q] at e; cases e
  | some j =>
    rw [q] at e
    exact h.get (show ds[j]? = some x from e)
theorem rb_ixL {ds : List D} {i : Int} (e : atI ds i = some x) : RB K (rIxL K) (.lst ds) (.int i) x := fun G H os v w hO hv hw Q q => by
  cases hw
  obtain ⟨a, xs, rfl, h, k⟩ := hv.lst_inv
  obtain ⟨u, hu, iu⟩ := atI_of k e
  exact ⟨a, xs, i, u, rfl, rfl, ex_l hO.ex h, hu, q u G H (Ex.refl _) hO iu⟩
theorem rb_ixT {ds : List D} {i : Int} (e : atI ds i = some x) : RB K (rIxT K) (.tup ds) (.int i) x := fun G H os v w hO hv hw Q q => by
  cases hw
  obtain ⟨a, xs, rfl, h, k⟩ := hv.tup_inv
  obtain ⟨u, hu, iu⟩ := atI_of k e
  exact ⟨a, xs, i, u, rfl, rfl, ex_t hO.ex h, hu, q u G H (Ex.refl _) hO iu⟩
theorem atI_ints {ns : List Int} {i : Int} {z : Int} (h : 0 ≤ i) (e : ns[i.toNat]? = some z) : atI (ns.map D.int) i = some (.int z) := by
  obtain ⟨j, rfl⟩ := Int.eq_ofNat_of_zero_le h
  exact atI_nat (by rw [List.getElem?_map]; simp at e; rw [e]; rfl)
theorem atI_pos {ds : List D} {i : Int} {z : D} (h : 0 ≤ i) (e : ds[i.toNat]? = some z) : atI ds i = some z := by
  obtain ⟨j, rfl⟩ := Int.eq_ofNat_of_zero_le h
  exact atI_nat (by simpa using e)
abbrev rLenQ (K : PySem.W.Frag) : List V → Hp → VK → Prop := fun xs H Q => ∃ p ys, xs = [.ref p] ∧ (SqL K H p ys ∨ SqT K H p ys) ∧ Q (.int ys.length) H
theorem rc_lenL {ds : List D} : RC K (rLenQ K) [.lst ds] (.int ds.length) := fun G H os vs hO hv Q q => by
  cases hv with
  | cons h k =>
    cases k
    obtain ⟨a, xs, rfl, h, k⟩ := h.lst_inv
    exact ⟨a, xs, rfl, .inl (ex_l hO.ex h), by rw [k.length]; exact q _ G H (Ex.refl _) hO (.int _)⟩
theorem rc_lenT {ds : List D} : RC K (rLenQ K) [.tup ds] (.int ds.length) := fun G H os vs hO hv Q q => by
  cases hv with
  | cons h k =>
    cases k
    obtain ⟨a, xs, rfl, h, k⟩ := h.tup_inv
    exact ⟨a, xs, rfl, .inr (ex_t hO.ex h), by rw [k.length]; exact q _ G H (Ex.refl _) hO (.int _)⟩
theorem rc_tupL {ds : List D} : RC K (fun xs H Q => ∃ p ys, xs = [.ref p] ∧ ((SqL K H p ys ∧ ∀ l, H l = none → Q (.ref l) (upd H l (.tup ys))) ∨ (SqT K H p ys ∧ Q (.ref p) H))) [.lst ds] (.tup ds) := fun G H os vs hO hv Q q => by
  cases hv with
  | cons h k =>
    cases k
    obtain ⟨a, xs, rfl, h, k⟩ := h.lst_inv
    exact ⟨a, xs, rfl, .inl ⟨ex_l hO.ex h, fun l hl => q _ (upd G l (.tup xs)) _ (hO.newEx hl) (hO.new hl) (.tup (st_of upd_same) (k.mono (hO.newEx hl)))⟩⟩
theorem rc_int {i : Int} : RC K (fun xs H Q => (∃ i, xs = [.int i] ∧ Q (.int i) H) ∨ ∃ k, xs = [.bl k] ∧ Q (.int (if k then 1 else 0)) H) [.int i] (.int i) := fun G H os vs hO hv Q q => by
  cases hv with
  | cons h k => cases k; cases h; exact .inl ⟨i, rfl, q _ G H (Ex.refl _) hO (.int _)⟩
theorem rc_abs {i : Int} : RC K (fun xs H Q => ∃ i, xs = [.int i] ∧ Q (.int (if i < 0 then -i else i)) H) [.int i] (.int (if i < 0 then -i else i)) := fun G H os vs hO hv Q q => by
  cases hv with
  | cons h k => cases k; cases h; exact ⟨i, rfl, q _ G H (Ex.refl _) hO (.int _)⟩
theorem rc_min2 {i j : Int} : RC K (fun xs H Q => ∃ i j, xs = [.int i, .int j] ∧ Q (.int (if j < i then j else i)) H) [.int i, .int j] (.int (if j < i then j else i)) := fun G H os vs hO hv Q q => by
  cases hv with
  | cons h k => cases h; cases k with
    | cons h k => cases h; cases k; exact ⟨i, j, rfl, q _ G H (Ex.refl _) hO (.int _)⟩
theorem rc_max2 {i j : Int} : RC K (fun xs H Q => ∃ i j, xs = [.int i, .int j] ∧ Q (.int (if j > i then j else i)) H) [.int i, .int j] (.int (if j > i then j else i)) := fun G H os vs hO hv Q q => by
  cases hv with
  | cons h k => cases h; cases k with
    | cons h k => cases h; cases k; exact ⟨i, j, rfl, q _ G H (Ex.refl _) hO (.int _)⟩
theorem rc_sum {ns : List Int} : RC K (rSum K) [.lst (ns.map D.int)] (.int ns.sum) := fun G H os vs hO hv Q q => by
  cases hv with
  | cons h k =>
    cases k
    obtain ⟨a, xs, rfl, h, k⟩ := h.lst_inv
    have := k.toInts
    subst this
    exact ⟨a, ns, rfl, ex_l hO.ex h, q _ G H (Ex.refl _) hO (.int _)⟩
theorem rc_sumR {n : Nat} {g : Nat → Int} : RC K (rSum K) [.lst ((List.range n).map fun m => D.int (g m))] (.int ((List.range n).map g).sum) := by
  have h := rc_sum (K := K) (ns := (List.range n).map g)
  rw [List.map_map] at h
  exact h
/-- isinstance of flat values against a built-in class -/
theorem rc_isi {n m : String} {b : Bool} (hv : ∀ G H v, Is K G v x → Ex G H → TyX K H v (.type n)) (hb : PySem.W.kitOne K (.type n) (.type m) = some b) : RC K (rIsi K) [x, .ty m] (.bl b) := fun G H os vs hO hv' Q q => by
  cases hv' with
  | cons h k => cases k with
    | cons h2 k => cases h2; cases k; exact ⟨_, _, _, _, b, rfl, .ty m, hv G H _ h hO.ex, hb, q _ G H (Ex.refl _) hO (.bl _)⟩
theorem ev_bits {i : Int} (h : EV K te σ G os (.int i)) : EV K (tBits te) σ G os (.int (Builtin.Int.intBits i : Nat)) := fun G1 e H hO _ q => h G1 e H hO _ fun v G' H' e' hO' hv => by
  cases hv; exact ⟨i, rfl, q _ G' H' e' hO' (.int _)⟩
end

/-! ## statements -/
section
variable {K : PySem.W.Frag} {σ σ' : L2.St} {G G' G0 H : Hp} {os os0 os' : List (Addr × HO)} {ta tb te : TE} {t u w : TS} {tt : TT} {x y z d d0 : D} {v f : V} {r : R2} {Z : Ends} {i j : Nat} {b : Bool} {l : Addr} {xs : List V} {Q : VK}
theorem s_seq (h : t { Z with nx := u Z } σ H) : tSeq t u Z σ H := h
theorem s_asg (hO : Own K G H os) (h : EV K te σ G os d) (hσ : ∀ v, σ.set i (some v) = σ.set i (some v)) (k : ∀ v G' H', Ex G G' → Own K G' H' os → Is K G' v d → Z.nx (σ.set i (some v)) H') : tAsg te (gName i) Z σ H :=
  h G (Ex.refl _) H hO _ fun v G' H' e hO' hv => k v G' H' e hO' hv
/-- a flat value: the base stays -/
theorem s_asgF (hO : Own K G H os) (h : EV K te σ G os d) (hf : flatD d = some f) (hσ : σ.set i (some f) = σ') (k : ∀ H', Own K G H' os → Z.nx σ' H') : tAsg te (gName i) Z σ H :=
  h G (Ex.refl _) H hO _ fun v G' H' e hO' hv => by
    have := flat_inv hf hv
    subst this
    show Z.nx (σ.set i (some v)) H'
    rw [hσ]
    exact k H' (hO'.weak e)
theorem s_nx (h : Z.nx σ H) : tNext Z σ H := h
/-- an int, in the form one wants -/
theorem s_asgV {n : Int} (hO : Own K G H os) (h : EV K te σ G os d) (hd : d = .int n) (hσ : σ.set i (some (.int n)) = σ') (k : ∀ H', Own K G H' os → Z.nx σ' H') : tAsg te (gName i) Z σ H := by
  subst hd
  exact s_asgF hO h rfl hσ k
/-- a new list, owned -/
theorem s_asgN {ta : TA} {ds : List D} (hO : Own K G H os) (h : EA K ta σ G os ds) (hz : ds.length ≤ 100000) (k : ∀ l xs G' H', Ex G G' → Own K G' H' ((l, .lst xs) :: os) → IsA K G' xs ds → Z.nx (σ.set i (some (.ref l))) H') : tAsg (tLst ta) (gName i) Z σ H :=
  h G (Ex.refl _) H hO _ fun vs G' H' e hO' hv => ⟨sz_of (by rw [hv.length]; exact hz), fun p hp => k p vs G' _ e (hO'.add hp) hv⟩
theorem s_asgE (hO : Own K G H os) (k : ∀ l H', Own K G H' ((l, .lst []) :: os) → Z.nx (σ.set i (some (.ref l))) H') : tAsg (tLst tNil) (gName i) Z σ H :=
  ⟨Nat.zero_le _, fun p hp => k p _ (hO.add hp)⟩
theorem s_if (hO : Own K G H os) (h : ET K tt σ G os b) (h1 : b = true → ∀ H', Own K G H' os → t Z σ H') (h2 : b = false → ∀ H', Own K G H' os → u Z σ H') : tIfS tt t u Z σ H := h G (Ex.refl _) H hO _ fun H' hO' => by
  cases b with
  | true => exact iteT (h1 rfl H' hO')
  | false => exact iteF (h2 rfl H' hO')
/-- if c: x = e, an int at x -/
theorem s_ifI {a c : Int} (hx : σ[i]? = some (some (.int a))) (hO : Own K G H os) (h : ET K tt σ G os b) (h1 : b = true → EV K te σ G os (.int c)) (hσ : σ.set i (some (.int (if b = true then c else a))) = σ') (k : ∀ H', Own K G H' os → Z.nx σ' H') : tIfS tt (tAsg te (gName i)) tNext Z σ H :=
  s_if hO h (fun e H1 hO1 => s_asgF (d := .int c) hO1 (h1 e) rfl (by rw [if_pos e] at hσ; exact hσ) k) fun e H1 hO1 => by
    subst e
    have q : σ = σ' := by
      rw [← hσ, if_neg Bool.false_ne_true]
      obtain ⟨hl, he⟩ := List.getElem?_eq_some_iff.mp hx
      exact (by rw [← he, List.set_getElem_self])
    show Z.nx σ H1
    rw [q]
    exact k H1 hO1
/-- the same, the int in the form one wants -/
theorem s_ifV {a c n : Int} (hx : σ[i]? = some (some (.int a))) (hO : Own K G H os) (h : ET K tt σ G os b) (h1 : b = true → EV K te σ G os (.int c)) (hn : (if b = true then c else a) = n) (hσ : σ.set i (some (.int n)) = σ') (k : ∀ H', Own K G H' os → Z.nx σ' H') : tIfS tt (tAsg te (gName i)) tNext Z σ H := by
  subst hn
  exact s_ifI hx hO h h1 hσ k
theorem s_brk (h : Z.bk σ H) : tBreak Z σ H := h
theorem s_cont (h : Z.ct σ H) : tCont Z σ H := h
theorem s_cut {M : L2.St → Hp → Prop} (h : t { Z with nx := M } σ H) (k : ∀ σ' H', M σ' H' → u Z σ' H') : Evl.tCut t u Z σ H := ⟨M, h, k⟩
theorem s_ret (hO : Own K G H os) (h : EV K te σ G os d) (k : ∀ v G' H', Ex G G' → Own K G' H' os → Is K G' v d → Z.rt v H') : tRet te Z σ H :=
  h G (Ex.refl _) H hO _ fun v G' H' e hO' hv => k v G' H' e hO' hv
/-- return e, out of the def: ms what was owned here -/
theorem s_out {ms : List (Addr × HO)} (k : ∀ v G' H', Ex G0 G' → Own K G' H' os0 → Is K G' v d0 → Q v H') (hO : Own K G H (ms ++ os0)) (e : Ex G0 G) (hQ : Z.rt = Q) (h : EV K te σ G (ms ++ os0) d) (hd : d = d0) : tRet te Z σ H :=
  s_ret hO h fun v G' H' e' hO' hv => by subst hd; rw [hQ]; exact k v G' H' (e.trans e') hO'.dropN hv
/-- return l, an owned list -/
theorem s_outL {ms : List (Addr × HO)} {ds : List D} (k : ∀ v G' H', Ex G0 G' → Own K G' H' os0 → Is K G' v (.lst ds) → Q v H') (hO : Own K G H ((l, .lst xs) :: ms ++ os0)) (e : Ex G0 G) (hQ : Z.rt = Q) (hv : σ[i]? = some (some (.ref l))) (hx : IsA K G xs ds) : tRet (tVar i) Z σ H :=
  ⟨.ref l, hv, by
    rw [hQ]
    have e1 := hO.freezeEx
    exact k _ (upd G l (.lst xs)) H (e.trans e1) (hO.freeze.dropN) (.lst (sq_of upd_same) (hx.mono e1))⟩
theorem s_drop (hO : Own K G H os) (h : EV K te σ G os d) (k : ∀ H', Own K G H' os → Z.nx σ H') : tDrop te Z σ H := h G (Ex.refl _) H hO _ fun v G' H' e hO' _ => k H' (hO'.weak e)
/-- l.append(e) -/
theorem s_app (hO : Own K G H os) (hl : σ[i]? = some (some (.ref l))) (hj : os[j]? = some (l, .lst xs)) (hz : xs.length < 100000) (h : EV K te σ G os d)
    (k : ∀ v G' H', Ex G G' → Own K G' H' (os.set j (l, .lst (xs ++ [v]))) → Is K G' v d → Z.nx σ H') : tDrop (tBM K "list" rAppend (tVar i) (tCons te tNil)) Z σ H :=
  ⟨.ref l, hl, .inl ⟨rfl, _, sq_of (hO.here hj)⟩, h G (Ex.refl _) H hO _ fun v G' H' e hO' hv => ⟨l, xs, v, rfl, rfl, hO'.here hj, sz_lt hz, k v G' _ e (hO'.put hj) hv⟩⟩
theorem s_appF (hO : Own K G H os) (hl : σ[i]? = some (some (.ref l))) (hj : os[j]? = some (l, .lst xs)) (hz : xs.length < 100000) (h : EV K te σ G os d) (hf : flatD d = some f) (ho : os.set j (l, .lst (xs ++ [f])) = os')
    (k : ∀ H', Own K G H' os' → Z.nx σ H') : tDrop (tBM K "list" rAppend (tVar i) (tCons te tNil)) Z σ H :=
  s_app hO hl hj hz h fun v G' H' e hO' hv => by
    have := flat_inv hf hv
    subst this
    rw [ho] at hO'
    exact k H' (hO'.weak e)
/-- l.insert(n, e) -/
abbrev rInsQ : V → List V → Hp → VK → Prop := fun x vs H Q => ∃ (l : Addr) (xs : List V) (i : Int) (y : V), x = .ref l ∧ vs = [.int i, y] ∧ H l = some (.lst xs) ∧ xs.length < sizeLine ∧ 0 ≤ i ∧ i < 2 ^ 63 ∧
    Q .non (upd H l (.lst (xs.take i.toNat ++ [y] ++ xs.drop i.toNat)))
theorem s_ins {n : Int} (hO : Own K G H os) (hl : σ[i]? = some (some (.ref l))) (hj : os[j]? = some (l, .lst xs)) (hz : xs.length < 100000) (hn : EV K tb σ G os (.int n)) (h0 : 0 ≤ n ∧ n < 2 ^ 63) (h : EV K te σ G os d)
    (k : ∀ v G' H', Ex G G' → Own K G' H' (os.set j (l, .lst (xs.take n.toNat ++ [v] ++ xs.drop n.toNat))) → Is K G' v d → Z.nx σ H') : tDrop (tBM K "list" rInsQ (tVar i) (tCons tb (tCons te tNil))) Z σ H :=
  ⟨.ref l, hl, .inl ⟨rfl, _, sq_of (hO.here hj)⟩, hn G (Ex.refl _) H hO _ fun v1 G1 H1 e1 hO1 hv1 => h G1 e1 H1 hO1 _ fun v G' H' e hO' hv => by
    cases hv1
    exact ⟨l, xs, n, v, rfl, rfl, hO'.here hj, sz_lt hz, h0.1, h0.2, k v G' _ (e1.trans e) (hO'.put hj) hv⟩⟩

/-! loops -/
theorem s_forR1 {ta : TA} {n : Int} (hO : Own K G H os) (h : EA K ta σ G os [.int n]) (hn : -(2 ^ 62) ≤ n ∧ n < 2 ^ 62) (Pv : Nat → L2.St → Hp → Prop) (h0 : ∀ H', Own K G H' os → Pv 0 σ H')
    (hs : ∀ (m : Nat) σ' H', (m : Int) < n → Pv m σ' H' → t { Z with nx := Pv (m + 1), ct := Pv (m + 1), bk := Z.nx } (σ'.set j (some (.int (m : Int)))) H') (hd : ∀ σ' H', Pv n.toNat σ' H' → Z.nx σ' H') : tFor (iRng1 ta) (gName j) t Z σ H :=
  h G (Ex.refl _) H hO _ fun vs G' H' e hO' hv => by
    cases hv with
    | cons h1 h2 =>
      cases h1; cases h2
      refine ⟨n, rfl, hn.1, hn.2, for_range (lo := 0) (n := n.toNat) Pv (h0 H' (hO'.weak e)) (fun m σ1 H1 hm p => ?_) hd⟩
      have e0 : (0 : Int) + (m : Int) = (m : Int) := Int.zero_add _
      show t _ (σ1.set j (some (.int (0 + (m : Int))))) H1
      rw [e0]
      exact hs m σ1 H1 (by omega) p
theorem s_forR2 {ta : TA} {lo n : Int} (hO : Own K G H os) (h : EA K ta σ G os [.int lo, .int n]) (hn : -(2 ^ 62) ≤ lo ∧ lo < 2 ^ 62 ∧ -(2 ^ 62) ≤ n ∧ n < 2 ^ 62) (Pv : Nat → L2.St → Hp → Prop) (h0 : ∀ H', Own K G H' os → Pv 0 σ H')
    (hs : ∀ (m : Nat) σ' H', lo + (m : Int) < n → Pv m σ' H' → t { Z with nx := Pv (m + 1), ct := Pv (m + 1), bk := Z.nx } (σ'.set j (some (.int (lo + (m : Int))))) H') (hd : ∀ σ' H', Pv (n - lo).toNat σ' H' → Z.nx σ' H') : tFor (iRng2 ta) (gName j) t Z σ H :=
  h G (Ex.refl _) H hO _ fun vs G' H' e hO' hv => by
    cases hv with
    | cons h1 h2 =>
      cases h1
      cases h2 with
      | cons h3 h4 =>
        cases h3; cases h4
        exact ⟨lo, n, rfl, ⟨hn.1, hn.2.1, hn.2.2.1, hn.2.2.2⟩, for_range (lo := lo) (n := (n - lo).toNat) Pv (h0 H' (hO'.weak e)) (fun m σ1 H1 hm p => hs m σ1 H1 (by omega) p) hd⟩
/-- over a list, a tuple (data) -/
theorem s_forL {g : TG} {ds : List D} (hO : Own K G H os) (h : EV K te σ G os (.lst ds)) (Pv : Hp → Nat → L2.St → Hp → Prop) (h0 : ∀ G' H', Ex G G' → Own K G' H' os → Pv G' 0 σ H') (hl : ∀ G' m σ' H', Pv G' m σ' H' → Ex G' H')
    (hs : ∀ G' m x v σ' H', Ex G G' → ds[m]? = some x → Is K G' v x → Pv G' m σ' H' → g v σ' H' fun σ2 H2 => t { Z with nx := Pv G' (m + 1), ct := Pv G' (m + 1), bk := Z.nx } σ2 H2) (hd : ∀ G' σ' H', Ex G G' → Pv G' ds.length σ' H' → Z.nx σ' H') : tFor (iList K te) g t Z σ H :=
  h G (Ex.refl _) H hO _ fun v G' H' e hO' hv => by
    obtain ⟨a, xs, rfl, hx, hk⟩ := hv.lst_inv
    refine ⟨a, rfl, ⟨xs, ex_l hO'.ex hx⟩, for_list (K := K) (a := a) (xs := xs) (Pv G') (h0 G' H' e hO') (fun m σ1 H1 _ p => ex_l (hl G' m σ1 H1 p) hx) (fun m v1 σ1 H1 hm p => ?_) (fun σ1 H1 p => ?_)⟩
    · obtain ⟨x, hx, iv⟩ := hk.getV hm
      exact hs G' m x v1 σ1 H1 e hx iv p
    · rw [hk.length] at p
      exact hd G' σ1 H1 e p
theorem s_forT {g : TG} {ds : List D} (hO : Own K G H os) (h : EV K te σ G os (.tup ds)) (Pv : Hp → Nat → L2.St → Hp → Prop) (h0 : ∀ G' H', Ex G G' → Own K G' H' os → Pv G' 0 σ H') (hl : ∀ G' m σ' H', Pv G' m σ' H' → Ex G' H')
    (hs : ∀ G' m x v σ' H', Ex G G' → ds[m]? = some x → Is K G' v x → Pv G' m σ' H' → g v σ' H' fun σ2 H2 => t { Z with nx := Pv G' (m + 1), ct := Pv G' (m + 1), bk := Z.nx } σ2 H2) (hd : ∀ G' σ' H', Ex G G' → Pv G' ds.length σ' H' → Z.nx σ' H') : tFor (iTup K te) g t Z σ H :=
  h G (Ex.refl _) H hO _ fun v G' H' e hO' hv => by
    obtain ⟨a, xs, rfl, hx, hk⟩ := hv.tup_inv
    refine ⟨a, rfl, ⟨xs, ex_t hO'.ex hx⟩, for_tup (K := K) (a := a) (xs := xs) (Pv G') (h0 G' H' e hO') (fun m σ1 H1 _ p => ex_t (hl G' m σ1 H1 p) hx) (fun m v1 σ1 H1 hm p => ?_) (fun σ1 H1 p => ?_)⟩
    · obtain ⟨x, hx, iv⟩ := hk.getV hm
      exact hs G' m x v1 σ1 H1 e hx iv p
    · rw [hk.length] at p
      exact hd G' σ1 H1 e p
/-- a, b = a pair -/
theorem g_tup2 {n m : Nat} {R : L2.St → Hp → Prop} (hv : Is K G v (.tup [x, y])) (e : Ex G H) (k : ∀ v1 v2, Is K G v1 x → Is K G v2 y → R ((σ.set n (some v1)).set m (some v2)) H) : gTup K 2 (gCons (gName n) (gCons (gName m) gNil)) v σ H R := by
  obtain ⟨a, xs, rfl, hx, hk⟩ := hv.tup_inv
  cases hk with
  | cons h1 h2 => cases h2 with
    | cons h3 h4 =>
      cases h4
      exact ⟨a, _, rfl, ex_t e hx, rfl, _, _, rfl, _, _, rfl, rfl, k _ _ h1 h3⟩
end

/-! ## comprehensions -/
section
variable {K : PySem.W.Frag} {σ σ' : L2.St} {G G' G0 H : Hp} {os : List (Addr × HO)} {tl te : TE} {tt : TT} {d : D} {Z : Ends} {j : Nat} {vs : List Nat}
/-- what has been gathered: the list at Dl, its base -/
def Gat (K : PySem.W.Frag) (G1 : Hp) (os : List (Addr × HO)) (Dl : Addr) (ds : List D) (H' : Hp) : Prop := ∃ G' acc, Ex G1 G' ∧ Own K G' H' ((Dl, .lst acc) :: os) ∧ IsA K G' acc ds
theorem gat_turn {G1 H1 : Hp} {Dl : Addr} {ds : List D} {y : D} {σ2 : L2.St} (p : Gat K G1 os Dl ds H1) (hz : ds.length < 100000) (he : ∀ p : Addr × HO, EV K te σ2 G1 (p :: os) y) :
    te σ2 H1 fun v H4 => ∃ acc, H4 Dl = some (.lst acc) ∧ acc.length < sizeLine ∧ Gat K G1 os Dl (ds ++ [y]) (upd H4 Dl (.lst (acc ++ [v]))) := by
  obtain ⟨G', acc, e, hO, ha⟩ := p
  refine he _ G' e H1 hO _ fun v G2 H2 e2 hO2 hv => ⟨acc, hO2.here (j := 0) rfl, sz_lt (by rw [ha.length]; exact hz), G2, acc ++ [v], e.trans e2, hO2.put0, (ha.mono e2).snoc hv⟩
theorem gat_skip {G1 H1 : Hp} {Dl : Addr} {ds : List D} (p : Gat K G1 os Dl ds H1) (R : Hp → Prop) (h : ∀ H2, Gat K G1 os Dl ds H2 → R H2) : R H1 := h _ p
/-- evaluates to a new list, owned -/
def EN (K : PySem.W.Frag) (te : TE) (σ : L2.St) (G : Hp) (os : List (Addr × HO)) (ds : List D) : Prop :=
  ∀ G1, Ex G G1 → ∀ H, Own K G1 H os → ∀ Q : VK, (∀ l xs G' H', Ex G1 G' → Own K G' H' ((l, .lst xs) :: os) → IsA K G' xs ds → Q (.ref l) H') → te σ H Q
theorem EN.mono {ds : List D} (h : EN K te σ G os ds) (e : Ex G G') : EN K te σ G' os ds := fun G1 e1 => h G1 (e.trans e1)
theorem ev_new {ds : List D} (h : EN K te σ G os ds) : EV K te σ G os (.lst ds) := fun G1 e H hO Q q =>
  h G1 e H hO Q fun l xs G' H' e' hO' hx => q _ _ H' (e'.trans hO'.freezeEx) hO'.freeze (.lst (sq_of upd_same) (hx.mono hO'.freezeEx))
theorem en_lst {ta : TA} {ds : List D} (h : EA K ta σ G os ds) (hz : ds.length ≤ 100000) : EN K (tLst ta) σ G os ds := fun G1 e H hO _ q =>
  h G1 e H hO _ fun vs G2 H2 e2 hO2 hv => ⟨sz_of (by rw [hv.length]; exact hz), fun p hp => q p vs G2 _ e2 (hO2.add hp) hv⟩
/-- x = e, a new list, owned -/
theorem s_asgO {i : Nat} {ds : List D} (hO : Own K G H os) (h : EN K te σ G os ds) (k : ∀ l xs G' H', Ex G G' → Own K G' H' ((l, .lst xs) :: os) → IsA K G' xs ds → Z.nx (σ.set i (some (.ref l))) H') : tAsg te (gName i) Z σ H :=
  h G (Ex.refl _) H hO _ fun l xs G' H' e hO' hx => k l xs G' H' e hO' hx
/-- [e for x in range(n)] -/
theorem en_lcR1 {ta : TA} {n : Int} {f : Nat → D} (h : EA K ta σ G os [.int n]) (hn : 0 ≤ n ∧ n ≤ 90000) (hw : ∀ x, wipe ((wipe σ vs).set j (some x)) vs = wipe σ vs)
    (he : ∀ (m : Nat) (p : Addr × HO), (m : Int) < n → EV K te ((wipe σ vs).set j (some (.int (m : Int)))) G (p :: os) (f m)) : EN K (tLc (iRng1 ta) (gName j) tYes te vs) σ G os ((List.range n.toNat).map f) := fun G1 e H hO Q q =>
  h G1 e H hO _ fun us G2 H2 e2 hO2 hv => by
    cases hv with
    | cons h1 h2 =>
      cases h1; cases h2
      refine ⟨n, rfl, by omega, by omega, fun Dl hD => lc_range (lo := 0) (n := n.toNat) (fun m H' => Gat K G2 os Dl ((List.range m).map f) H') ⟨G2, [], Ex.refl _, hO2.add hD, .nil⟩ (fun m H1 hm p => ?_) (fun H' p => ?_)⟩
      · have e0 : (0 : Int) + (m : Int) = (m : Int) := Int.zero_add _
        show wipe ((wipe σ vs).set j (some (.int (0 + (m : Int))))) vs = wipe σ vs ∧ (if true = true then te ((wipe σ vs).set j (some (.int (0 + (m : Int))))) H1 fun y H4 => ∃ acc, H4 Dl = some (.lst acc) ∧ acc.length < sizeLine ∧ Gat K G2 os Dl ((List.range (m + 1)).map f) (upd H4 Dl (.lst (acc ++ [y]))) else Gat K G2 os Dl ((List.range (m + 1)).map f) H1)
        rw [e0]
        refine ⟨hw _, iteT ?_⟩
        rw [List.range_succ, List.map_append, List.map_singleton]
        exact gat_turn p (by rw [List.length_map, List.length_range]; omega) fun p => (he m p (by omega)).mono (e.trans e2)
      · obtain ⟨G', acc, e', hO', ha⟩ := p
        exact q _ _ _ H' (e2.trans e') hO' ha
/-- [e for x in xs] over a list of data, by its items -/
theorem en_lcL {g : TG} {ds : List D} {f : Nat → D} (h : EV K tl σ G os (.lst ds)) (hz : ds.length ≤ 90000)
    (he : ∀ (m : Nat) (x : D) (v : V) (G' H' : Hp) (R : L2.St → Hp → Prop), Ex G G' → Ex G' H' → ds[m]? = some x → Is K G' v x → (∀ σ2, wipe σ2 vs = wipe σ vs → (∀ p : Addr × HO, EV K te σ2 G' (p :: os) (f m)) → R σ2 H') → g v (wipe σ vs) H' R) : EN K (tLc (iList K tl) g tYes te vs) σ G os ((List.range ds.length).map f) := fun G1 e H hO Q q =>
  h G1 e H hO _ fun v G2 H2 e2 hO2 hv => by
    obtain ⟨a, xs, rfl, hx, hk⟩ := hv.lst_inv
    refine ⟨a, rfl, ⟨xs, ex_l hO2.ex hx⟩, fun Dl hD => lc_list (K := K) (a := a) (xs := xs) (fun m H' => Gat K G2 os Dl ((List.range m).map f) H') ⟨G2, [], Ex.refl _, hO2.add hD, .nil⟩ (fun m H' _ p => ?_) (fun m v1 H1 hm p => ?_) (fun H' p => ?_)⟩
    · obtain ⟨G', acc, e', hO', _⟩ := p
      exact ex_l (e'.trans hO'.ex) hx
    · obtain ⟨x, hx, iv⟩ := hk.getV hm
      have hlt : m < ds.length := (List.getElem?_eq_some_iff.mp hx).1
      have eH : Ex G2 H1 := let ⟨G', acc, e', hO', _⟩ := p; e'.trans hO'.ex
      refine he m x v1 G2 H1 _ (e.trans e2) eH hx iv fun σ2 hw hE => ⟨hw, ?_⟩
      refine iteT (B := Gat K G2 os Dl ((List.range (m + 1)).map f) H1) ?_
      rw [List.range_succ, List.map_append, List.map_singleton]
      exact gat_turn p (by rw [List.length_map, List.length_range]; omega) hE
    · obtain ⟨G', acc, e', hO', ha⟩ := p
      rw [hk.length] at ha
      exact q _ _ _ H' (e2.trans e') hO' ha
theorem en_lcT {g : TG} {ds : List D} {f : Nat → D} (h : EV K tl σ G os (.tup ds)) (hz : ds.length ≤ 90000)
    (he : ∀ (m : Nat) (x : D) (v : V) (G' H' : Hp) (R : L2.St → Hp → Prop), Ex G G' → Ex G' H' → ds[m]? = some x → Is K G' v x → (∀ σ2, wipe σ2 vs = wipe σ vs → (∀ p : Addr × HO, EV K te σ2 G' (p :: os) (f m)) → R σ2 H') → g v (wipe σ vs) H' R) : EN K (tLc (iTup K tl) g tYes te vs) σ G os ((List.range ds.length).map f) := fun G1 e H hO Q q =>
  h G1 e H hO _ fun v G2 H2 e2 hO2 hv => by
    obtain ⟨a, xs, rfl, hx, hk⟩ := hv.tup_inv
    refine ⟨a, rfl, ⟨xs, ex_t hO2.ex hx⟩, fun Dl hD => lc_tup (K := K) (a := a) (xs := xs) (fun m H' => Gat K G2 os Dl ((List.range m).map f) H') ⟨G2, [], Ex.refl _, hO2.add hD, .nil⟩ (fun m H' _ p => ?_) (fun m v1 H1 hm p => ?_) (fun H' p => ?_)⟩
    · obtain ⟨G', acc, e', hO', _⟩ := p
      exact ex_t (e'.trans hO'.ex) hx
    · obtain ⟨x, hx, iv⟩ := hk.getV hm
      have hlt : m < ds.length := (List.getElem?_eq_some_iff.mp hx).1
      have eH : Ex G2 H1 := let ⟨G', acc, e', hO', _⟩ := p; e'.trans hO'.ex
      refine he m x v1 G2 H1 _ (e.trans e2) eH hx iv fun σ2 hw hE => ⟨hw, ?_⟩
      refine iteT (B := Gat K G2 os Dl ((List.range (m + 1)).map f) H1) ?_
      rw [List.range_succ, List.map_append, List.map_singleton]
      exact gat_turn p (by rw [List.length_map, List.length_range]; omega) hE
    · obtain ⟨G', acc, e', hO', ha⟩ := p
      rw [hk.length] at ha
      exact q _ _ _ H' (e2.trans e') hO' ha
/-- the items of such a list, told by a list of one's own -/
theorem range_map {α : Type} {as : List α} {f : Nat → D} {g : α → D} {n : Nat} (hn : n = as.length) (h : ∀ m a, as[m]? = some a → f m = g a) : (List.range n).map f = as.map g := by
  subst hn
  refine List.ext_getElem? fun m => ?_
  rw [List.getElem?_map, List.getElem?_map]
  by_cases hm : m < as.length
  · rw [List.getElem?_range hm, List.getElem?_eq_getElem hm]
    exact congrArg some (h m _ (List.getElem?_eq_getElem hm))
  · rw [List.getElem?_eq_none (by rw [List.length_range]; omega), List.getElem?_eq_none (by omega)]
    rfl
end

/-! ## the rules that name the written part, over a K that is the context's -/
section
variable {X : Cx} {K : PySem.W.Frag}
theorem ixL (h : X.K = K) : IxR X (rIxL K) := h ▸ ix_list
theorem ixT (h : X.K = K) : IxR X (rIxT K) := h ▸ ix_tup
theorem slL (h : X.K = K) : SlR X (rSlL K) := h ▸ sl_list
theorem slT (h : X.K = K) : SlR X (rSlT K) := h ▸ sl_tup
theorem callLen (h : X.K = K) : CallR X (.builtin "len") (rLenQ K) := h ▸ call_len_seq
theorem callSum (h : X.K = K) (hc : X.calm = true) : CallR X (.builtin "sum") (rSum K) := h ▸ cr_sum hc
theorem callMax (h : X.K = K) (hc : X.calm = true) : CallR X (.builtin "max") (rMax K) := h ▸ cr_max hc
theorem callMin (h : X.K = K) (hc : X.calm = true) : CallR X (.builtin "min") (rMin K) := h ▸ cr_min hc
theorem callIsi (h : X.K = K) : CallR X (.builtin "isinstance") (rIsi K) := h ▸ call_isi
abbrev rTupQ (K : PySem.W.Frag) : List V → Hp → VK → Prop := fun xs H Q => ∃ p ys, xs = [.ref p] ∧ ((SqL K H p ys ∧ ∀ l, H l = none → Q (.ref l) (upd H l (.tup ys))) ∨ (SqT K H p ys ∧ Q (.ref p) H))
abbrev rListQ (K : PySem.W.Frag) : List V → Hp → VK → Prop := fun xs H Q => ∃ p ys, xs = [.ref p] ∧ (SqL K H p ys ∨ SqT K H p ys) ∧ ∀ l, H l = none → Q (.ref l) (upd H l (.lst ys))
theorem callTup (h : X.K = K) : CallR X (.type "tuple") (rTupQ K) := h ▸ call_tuple_of
theorem callList (h : X.K = K) : CallR X (.type "list") (rListQ K) := h ▸ call_list_of
theorem opIn (h : X.K = K) : OpR X (compareOp .In) (rIn K false) := h ▸ op_in_seq
theorem opNotIn (h : X.K = K) : OpR X (compareOp .NotIn) (rIn K true) := h ▸ op_notIn_seq
theorem piL {tg l : Expr} {tl : TE} (h : X.K = K) (hl : PE X l tl) : PI X tg l (iList K tl) := h ▸ pi_list hl
theorem piT {tg l : Expr} {tl : TE} (h : X.K = K) (hl : PE X l tl) : PI X tg l (iTup K tl) := h ▸ pi_tup hl
theorem bmK {T name id : String} {r : V → List V → Hp → VK → Prop} {o e : Expr} {es : List Expr} {apos cpos : Pos} {to : TE} {t : TA} (h : X.K = K) (b : PE X (.Call (.Attribute o name apos) (e :: es) [] cpos) (tBM X.K T r to t)) : PE X (.Call (.Attribute o name apos) (e :: es) [] cpos) (tBM K T r to t) := h ▸ b
theorem bm0K {T name id : String} {r : V → List V → Hp → VK → Prop} {o : Expr} {apos cpos : Pos} {to : TE} (h : X.K = K) (b : PE X (.Call (.Attribute o name apos) [] [] cpos) (tBM0 X.K T r to)) : PE X (.Call (.Attribute o name apos) [] [] cpos) (tBM0 K T r to) := h ▸ b
theorem gTupK {es : List Expr} {k : Nat} {t : TGs} {n : Nat} {pos : Pos} (h : X.K = K) (g : PG X (.Tuple es k pos) (gTup X.K n t)) : PG X (.Tuple es k pos) (gTup K n t) := h ▸ g
end

/-! ## defs -/
/-- the promise of a def that changes nothing it is given and raises nothing: P of the data in and out -/
def Pr (K : PySem.W.Frag) (P : List D → D → Prop) : Sp := fun vs H Q _ => ∃ G os ds d, Own K G H os ∧ IsA K G vs ds ∧ P ds d ∧ ∀ v G' H', Ex G G' → Own K G' H' os → Is K G' v d → Q v H'
/-- a def as it stands behind the top -/
abbrev FnP (K : PySem.W.Frag) (x : Str) (st : Stmt) (f : Addr) (fd : FuncData) : Prop := FunD K x x (defArgs st) (defBody st) (defScope st) [] [] f fd
structure Fn (P : Program) (w : World) (K : PySem.W.Frag) (mg : Str → Option Value) (base : Heap) (x : Str) (k : Nat) (ps : List Str) (sp : Sp) : Prop where
  ex : ∃ f fd, FnOk P w K mg base CX0 k f fd ps sp ∧ mg x = some (.ref f) ∧ PySem.W.keepIn K (.ref f) = true ∧ Binds K fd ps [] ∧ ∃ oc od osl, K.lookup f = some ⟨oc, od, .func fd, osl⟩
/-- where a def stands -/
def At (K : PySem.W.Frag) (mg : Str → Option Value) (x : Str) (st : Stmt) : Prop := ∃ f fd, FnP K x st f fd ∧ mg x = some (.ref f)
section
variable {P : Program} {w : World} {K : PySem.W.Frag} {mg : Str → Option Value} {base : Heap} {x : Str} {st : Stmt} {N ps : List Str} {k : Nat}
theorem Fn.mk' {sp : Sp} (A : At K mg x st) (S : FnScope N ps (defScope st))
    (hb : ∀ (kV doc pm : Value) (an : Option Addr) (cdv ct : Value) (us : List Value), us.length = ps.length → bindArgs (PySem.W.fnOf x x (defArgs st) (defBody st) (defScope st) .none kV doc pm an cdv ct) ⟨us, []⟩ = pure (ps.zip us)) (len : ∀ vs H Q E, sp vs H Q E → vs.length = ps.length)
    (hbody : ∀ (f : Addr) (cdv : Value) (A : Around) (outer : List Env) (s : Shared) (H : Hp) (vs : List V) (Q : VK) (E : XK), Room k (A.deeper (envOfC x (defScope st) s.heap.objs.size f cdv)) → sp vs H Q E →
      ∃ t, PSs (cxOf CX0 P w K mg base N x (defScope st) f cdv A outer s H E).nox (defBody st) t ∧ t { nx := fun _ H' => Q .non H', rt := Q } (start N vs) H) : Fn P w K mg base x (k + 1) ps sp := by
  obtain ⟨f, fd, F, g⟩ := A
  refine ⟨f, fd, F.ok S len (fun cdv A outer s H vs Q E hr h => ?_), g, F.kp, F.bindsN hb, let ⟨oc, od, _, _, _, _, _, _, _, osl, _, lk, _⟩ := F.ex; ⟨oc, od, osl, lk⟩⟩
  obtain ⟨t, h1, h2⟩ := hbody f cdv A outer s H vs Q E hr h
  exact ⟨t, h1.nox, h2⟩
/-- THE RULE for a def with such a promise -/
theorem Fn.pure {P' : List D → D → Prop} (A : At K mg x st) (S : FnScope N ps (defScope st)) (hb : ∀ (kV doc pm : Value) (an : Option Addr) (cdv ct : Value) (us : List Value), us.length = ps.length → bindArgs (PySem.W.fnOf x x (defArgs st) (defBody st) (defScope st) .none kV doc pm an cdv ct) ⟨us, []⟩ = pure (ps.zip us)) (len : ∀ ds d, P' ds d → ds.length = ps.length)
    (hbody : ∀ (f : Addr) (cdv : Value) (A : Around) (outer : List Env) (s : Shared) (H : Hp) (E : XK), Room k (A.deeper (envOfC x (defScope st) s.heap.objs.size f cdv)) →
      ∃ t, PSs (cxOf CX0 P w K mg base N x (defScope st) f cdv A outer s H E).nox (defBody st) t ∧
        ∀ (G : Hp) (os : List (Addr × HO)) (ds : List D) (d : D) (vs : List V) (Q : VK), Own K G H os → IsA K G vs ds → P' ds d → (∀ v G' H', Ex G G' → Own K G' H' os → Is K G' v d → Q v H') → t { nx := fun _ H' => Q .non H', rt := Q } (start N vs) H) : Fn P w K mg base x (k + 1) ps (Pr K P') := by
  refine Fn.mk' A S hb (fun vs H Q E h => ?_) fun f cdv A outer s H vs Q E hr h => ?_
  · obtain ⟨G, os, ds, d, _, hv, hp, _⟩ := h
    rw [hv.length]
    exact len ds d hp
  · obtain ⟨G, os, ds, d, hO, hv, hp, q⟩ := h
    obtain ⟨t, h1, h2⟩ := hbody f cdv A outer s H E hr
    exact ⟨t, h1, h2 G os ds d vs Q hO hv hp q⟩
end
/-- the def's object is the one that stands there -/
theorem Fn.at_ {P : Program} {w : World} {K : PySem.W.Frag} {mg : Str → Option Value} {base : Heap} {x : Str} {k : Nat} {ps : List Str} {sp : Sp} {st : Stmt} {f : Addr} {fd : FuncData} (C : Fn P w K mg base x k ps sp) (F : FnP K x st f fd) (hm : mg x = some (.ref f)) : FnOk P w K mg base CX0 k f fd ps sp := by
  obtain ⟨f2, fd2, FO, hm2, _, _, oc, od, osl, lk⟩ := C.ex
  have e := hm2.symm.trans hm
  cases e
  obtain ⟨_, _, _, _, _, _, _, _, _, _, _, lk2, _⟩ := F.ex
  have e := lk.symm.trans lk2
  cases e
  exact FO
section
variable {X : Cx} {x : Str} {k : Nat} {ps : List Str} {sp : Sp} {e : Expr} {es : List Expr} {t : TA} {p pos : Pos}
theorem pe_fn (C : Fn X.prog X.w X.K X.mg X.base x k ps sp) (hr : Room k X.A) (hg : Gl X x) (ha : PA X (e :: es) t) (hdb : (x == ("__debug__" : Str)) = false := by decide)
    (he : starEach (e :: es) X.env = (false, eval e X.env) :: starEach es X.env := by rfl) (hpl : (backTo pos (starEach es X.env)).any (·.1) = false := by rfl) : PE X (.Call (.Name x p) (e :: es) [] pos) (tCall sp [] E0 t) := by
  obtain ⟨f, fd, F, hm, hk, hb, _⟩ := C.ex
  exact pe_call F hr hg hm hk hb .nil pass0 ha hdb he hpl
end
section
variable {K : PySem.W.Frag} {σ : L2.St} {G H : Hp} {os : List (Addr × HO)} {ta : TA} {ds : List D} {d : D} {P : List D → D → Prop} {E : XK}
theorem ev_call (h : EA K ta σ G os ds) (p : P ds d) : EV K (tCall (Pr K P) [] E ta) σ G os d := fun G1 e H hO Q q =>
  h G1 e H hO _ fun vs G2 H2 e2 hO2 hv => ⟨G2, os, ds, d, hO2, by rw [List.append_nil]; exact hv, p, fun v G' H' e' hO' hv' => q v G' H' (e2.trans e') hO' hv'⟩
end
end Cm

namespace Rk00
open PySem PySem.Spec PyProof.Rows L2 Cm

local macro_rules | `(tactic| walk_at "ex") => `(tactic| first | exact Evl.Ex.refl _ | assumption | (refine' Evl.Ex.trans ?ha ?hb; (case hb => assumption); (case ha => walk_at "ex")))
local macro_rules | `(tactic| walk_at "is") => `(tactic| first | exact Is.int _ | exact Is.bl _ | exact Is.str _ | exact Is.non | exact Is.ty _ | assumption | (refine' Is.mono ?hE ?hI; (case hI => assumption); (case hE => walk_at "ex")))
local macro_rules | `(tactic| walk_at "sd") => `(tactic| first | omega | ((try simp only [CPow, CMul, CDiv, CDivW]); omega) | assumption)
local macro_rules | `(tactic| walk_at "ix") => `(tactic| first | assumption | rfl)
local macro_rules | `(tactic| walk_at "rb") => `(tactic| first | exact rb_ii | exact rb_ib | exact rb_eqI | exact rb_neI | exact rb_ci (by walk_at "sd") | exact rb_ixL (by walk_at "ix") | exact rb_ixT (by walk_at "ix") | exact rb_eqS | exact rb_neS | exact rb_eqB | exact rb_neB)
local macro_rules | `(tactic| walk_at "rc") => `(tactic| first | exact rc_int | exact rc_abs | exact rc_lenL | exact rc_lenT | exact rc_min2 | exact rc_max2 | exact rc_sumR | exact rc_sum | exact rc_tupL)
local macro_rules | `(tactic| walk_at "pre") => `(tactic| first | trivial | assumption | omega | (refine ⟨?_, ?_⟩ <;> first | assumption | omega))
local macro_rules | `(tactic| walk_at "call") => `(tactic| first | assumption | exact ⟨_, rfl, (by walk_at "pre"), rfl⟩ | exact ⟨_, _, rfl, (by walk_at "pre"), rfl⟩ | exact ⟨_, _, _, rfl, (by walk_at "pre"), rfl⟩ | exact ⟨_, _, _, _, rfl, (by walk_at "pre"), rfl⟩)
local macro_rules | `(tactic| walk_at "ea") => `(tactic| first
  | with_reducible exact ea_nil
  | ((with_reducible refine' ea_cons ?he ?hr); (case he => walk_at "ev"); (case hr => walk_at "ea")))
local macro_rules | `(tactic| walk_at "ev") => `(tactic| first
  | ((with_reducible refine' ev_c ?h); (case h => (intro _; walk_at "is")))
  | ((with_reducible refine' ev_var ?h1 ?h2); (case h1 => rfl); (case h2 => walk_at "is"))
  | ((with_reducible refine' ev_op ?hr ?ha ?hb); (case ha => walk_at "ev"); (case hb => walk_at "ev"); (case hr => walk_at "rb"))
  | ((with_reducible refine' ev_cb ?hr ?ha); (case ha => walk_at "ea"); (case hr => walk_at "rc"))
  | ((with_reducible refine' ev_call ?ha ?hp); (case ha => walk_at "ea"); (case hp => walk_at "call"))
  | ((with_reducible refine' ev_un ?hr ?ha); (case ha => walk_at "ev"); (case hr => exact ru_i))
  | ((with_reducible refine' ev_notV ?ha); (case ha => walk_at "ev"))
  | ((with_reducible refine' ev_andV ?ha ?hb); (case ha => walk_at "ev"); (case hb => (intro _; walk_at "ev")))
  | ((with_reducible refine' ev_orV ?ha ?hb); (case ha => walk_at "ev"); (case hb => (intro _; walk_at "ev")))
  | ((with_reducible refine' ev_tup ?ha ?hz); (case ha => walk_at "ea"); (case hz => exact Nat.le_of_ble_eq_true rfl))
  | ((with_reducible refine' ev_lst ?ha ?hz); (case ha => walk_at "ea"); (case hz => exact Nat.le_of_ble_eq_true rfl))
  | ((with_reducible refine' ev_ifI ?ht ?ha ?hb); (case ht => walk_at "et"); (case ha => (intro _; walk_at "ev")); (case hb => (intro _; walk_at "ev")))
  | ((with_reducible refine' ev_bits ?ha); (case ha => walk_at "ev")))
local macro_rules | `(tactic| walk_at "et") => `(tactic| first
  | ((with_reducible refine' et_tst ?h); (case h => walk_at "ev"))
  | ((with_reducible refine' et_B ?h); (case h => walk_at "ev"))
  | ((with_reducible refine' et_not ?h); (case h => walk_at "et"))
  | ((with_reducible refine' et_and ?h1 ?h2); (case h1 => walk_at "et"); (case h2 => (intro _; walk_at "et")))
  | ((with_reducible refine' et_or ?h1 ?h2); (case h1 => walk_at "et"); (case h2 => (intro _; walk_at "et"))))
local macro_rules | `(tactic| walk_at "nrm") => `(tactic| first | (dsimp only [List.set]; done) | (dsimp only [List.set]; exact rfl))
local macro_rules | `(tactic| walk_at "bl") => `(tactic| (try simp only [decide_eq_true_eq, decide_eq_false_iff_not, Bool.not_eq_true', Bool.not_eq_false', Bool.and_eq_true, Bool.and_eq_false_iff, Bool.or_eq_true, Bool.or_eq_false_iff, Int.not_lt, Int.not_le] at *))
local macro_rules | `(tactic| walk_at "st1") => `(tactic| first
  | (with_reducible refine' s_nx ?_)
  | ((with_reducible refine' s_asgE ?hO ?_); (case hO => assumption); intro _ _ _)
  | ((with_reducible refine' s_asgF ?hO ?he ?hf ?hn ?_); (case hO => assumption); (case he => walk_at "ev"); (case hf => rfl); (case hn => walk_at "nrm"); intro _ _)
  | ((with_reducible refine' s_asg ?hO ?he ?hn ?_); (case hO => assumption); (case he => walk_at "ev"); (case hn => (intro _; rfl)); intro _ _ _ _ _ _; (try dsimp only [List.set]))
  | ((with_reducible refine' s_ifI ?hx ?hO ?ht ?h1 ?hn ?_); (case hO => assumption); (case ht => walk_at "et"); (case h1 => (intro _; walk_at "ev")); (case hx => rfl); (case hn => walk_at "nrm"); intro _ _)
  | ((with_reducible refine' s_drop ?hO ?he ?_); (case hO => assumption); (case he => walk_at "ev"); intro _ _)
  | ((with_reducible refine' s_out (ms := []) ?k ?hO ?he ?hQ ?ev ?_); (case hO => assumption); (case k => assumption); (case he => walk_at "ex"); (case hQ => rfl); (case ev => walk_at "ev")))
local macro_rules | `(tactic| walk_at "st") => `(tactic| first | ((with_reducible refine' s_seq ?_); walk_at "st1") | walk_at "st1")
local macro_rules | `(tactic| walk_at "if1") => `(tactic| ((with_reducible refine' s_if ?hO ?ht ?_ ?_); (case hO => assumption); (case ht => walk_at "et")))
local macro_rules | `(tactic| walk_at "if") => `(tactic| ((with_reducible refine' s_seq ?_); walk_at "if1"))
local macro_rules | `(tactic| walk_at "seq") => `(tactic| (with_reducible refine' s_seq ?_))
local macro_rules | `(tactic| walk_at "app1") => `(tactic| ((with_reducible refine' s_appF (j := 0) ?hO ?hl ?hj ?hz ?he ?hf ?ho ?_); (case hO => assumption); (case hl => rfl); (case hj => rfl); (case he => walk_at "ev"); (case hf => rfl); (case ho => walk_at "nrm"); (case hz => walk_at "sz"); intro _ _))
local macro_rules | `(tactic| walk_at "app") => `(tactic| (walk_at "seq"; walk_at "app1"))
local macro_rules | `(tactic| walk_at "sz") => `(tactic| first | assumption | omega | ((simp only [List.length_map, List.length_nil, List.length_cons, List.length_append]); omega))
local macro_rules | `(tactic| walk_at "en") => `(tactic| first
  | ((with_reducible refine' en_lst ?ha ?hz); (case ha => walk_at "ea"); (case hz => exact Nat.le_of_ble_eq_true rfl)))

def topS (i : Nat) : Stmt := PySem.Challenge.pw_coremill_k00_pieces_and_bytes.main.body.getD i (.Pass ⟨0, 0, 0, 0⟩)

abbrev s_wrap : Stmt := topS 2
theorem sc_wrap : FnScope ["number", "width"] ["number", "width"] (defScope s_wrap) := ⟨rfl, rfl, rfl, by decide +kernel, rfl, by decide +kernel, by decide +kernel⟩
abbrev s_signed : Stmt := topS 3
theorem sc_signed : FnScope ["value", "width"] ["value", "width"] (defScope s_signed) := ⟨rfl, rfl, rfl, by decide +kernel, rfl, by decide +kernel, by decide +kernel⟩
abbrev s_mask_of : Stmt := topS 4
theorem sc_mask_of : FnScope ["low", "count"] ["low", "count"] (defScope s_mask_of) := ⟨rfl, rfl, rfl, by decide +kernel, rfl, by decide +kernel, by decide +kernel⟩
abbrev s_gather : Stmt := topS 5
theorem sc_gather : FnScope ["word", "pieces", "value", "shift", "low", "count", "part"] ["word", "pieces"] (defScope s_gather) := ⟨rfl, rfl, rfl, by decide +kernel, rfl, by decide +kernel, by decide +kernel⟩
abbrev s_spread : Stmt := topS 6
theorem sc_spread : FnScope ["value", "pieces", "word", "low", "count", "part"] ["value", "pieces"] (defScope s_spread) := ⟨rfl, rfl, rfl, by decide +kernel, rfl, by decide +kernel, by decide +kernel⟩
abbrev s_byte_at : Stmt := topS 7
theorem sc_byte_at : FnScope ["value", "index"] ["value", "index"] (defScope s_byte_at) := ⟨rfl, rfl, rfl, by decide +kernel, rfl, by decide +kernel, by decide +kernel⟩
abbrev s_merge : Stmt := topS 8
theorem sc_merge : FnScope ["old", "new", "cover", "mask", "index"] ["old", "new", "cover"] (defScope s_merge) := ⟨rfl, rfl, rfl, by decide +kernel, rfl, by decide +kernel, by decide +kernel⟩
abbrev s_full_cover : Stmt := topS 9
theorem sc_full_cover : FnScope ["width"] ["width"] (defScope s_full_cover) := ⟨rfl, rfl, rfl, by decide +kernel, rfl, by decide +kernel, by decide +kernel⟩
abbrev s_law_cell : Stmt := topS 11
theorem sc_law_cell : FnScope ["script", "k"] ["script", "k"] (defScope s_law_cell) := ⟨rfl, rfl, rfl, by decide +kernel, rfl, by decide +kernel, by decide +kernel⟩
abbrev s_law_mix : Stmt := topS 12
theorem sc_law_mix : FnScope ["cell", "k", "x"] ["cell", "k"] (defScope s_law_mix) := ⟨rfl, rfl, rfl, by decide +kernel, rfl, by decide +kernel, by decide +kernel⟩
abbrev s_law_draws : Stmt := topS 13
theorem sc_law_draws : FnScope ["cell", "count", "base", "rest", "small", "row", "k"] ["cell", "count", "base"] (defScope s_law_draws) := ⟨rfl, rfl, rfl, by decide +kernel, rfl, by decide +kernel, by decide +kernel⟩
abbrev s_law_far : Stmt := topS 14
theorem sc_law_far : FnScope ["script", "k"] ["script", "k"] (defScope s_law_far) := ⟨rfl, rfl, rfl, by decide +kernel, rfl, by decide +kernel, by decide +kernel⟩
abbrev s_law_wide : Stmt := topS 15
theorem sc_law_wide : FnScope ["cell", "bound", "high"] ["cell", "bound"] (defScope s_law_wide) := ⟨rfl, rfl, rfl, by decide +kernel, rfl, by decide +kernel, by decide +kernel⟩
abbrev s_law_number : Stmt := topS 16
theorem sc_law_number : FnScope ["x"] ["x"] (defScope s_law_number) := ⟨rfl, rfl, rfl, by decide +kernel, rfl, by decide +kernel, by decide +kernel⟩
abbrev s_law_pieces : Stmt := topS 17
theorem sc_law_pieces : FnScope ["cell", "draws", "pieces", "low", "k", "most_gap", "most_size", "size"] ["cell"] (defScope s_law_pieces) := ⟨rfl, rfl, rfl, by decide +kernel, rfl, by decide +kernel, by decide +kernel⟩
abbrev s_law_spots : Stmt := topS 18
theorem sc_law_spots : FnScope ["pieces", "spots", "piece", "k"] ["pieces"] (defScope s_law_spots) := ⟨rfl, rfl, rfl, by decide +kernel, rfl, by decide +kernel, by decide +kernel⟩
abbrev s_law_bit : Stmt := topS 19
theorem sc_law_bit : FnScope ["number", "spot"] ["number", "spot"] (defScope s_law_bit) := ⟨rfl, rfl, rfl, by decide +kernel, rfl, by decide +kernel, by decide +kernel⟩
abbrev s_law_byte : Stmt := topS 20
theorem sc_law_byte : FnScope ["number", "k"] ["number", "k"] (defScope s_law_byte) := ⟨rfl, rfl, rfl, by decide +kernel, rfl, by decide +kernel, by decide +kernel⟩
abbrev s_law_equal : Stmt := topS 21
theorem sc_law_equal : FnScope ["pairs", "pair"] ["pairs"] (defScope s_law_equal) := ⟨rfl, rfl, rfl, by decide +kernel, rfl, by decide +kernel, by decide +kernel⟩
abbrev s_law_pieces_right : Stmt := topS 22
theorem sc_law_pieces_right : FnScope ["pieces", "word", "value", "spots", "held", "laid", "own", "pairs", "k", "spot"] ["pieces", "word", "value"] (defScope s_law_pieces_right) := ⟨rfl, rfl, rfl, by decide +kernel, rfl, by decide +kernel, by decide +kernel⟩
abbrev s_law_bytes_right : Stmt := topS 23
theorem sc_law_bytes_right : FnScope ["old", "new", "cover", "pairs", "due", "k", "part"] ["old", "new", "cover"] (defScope s_law_bytes_right) := ⟨rfl, rfl, rfl, by decide +kernel, rfl, by decide +kernel, by decide +kernel⟩
abbrev s_law_numbers_right : Stmt := topS 24
theorem sc_law_numbers_right : FnScope ["number", "width", "value", "top", "pairs", "x", "due"] ["number", "width", "value"] (defScope s_law_numbers_right) := ⟨rfl, rfl, rfl, by decide +kernel, rfl, by decide +kernel, by decide +kernel⟩
abbrev s_law_round : Stmt := topS 25
theorem sc_law_round : FnScope ["script", "base", "pieces", "draws", "many", "word", "value", "old", "new", "cover", "width", "number", "turn", "piece"] ["script", "base"] (defScope s_law_round) := ⟨rfl, rfl, rfl, by decide +kernel, rfl, by decide +kernel, by decide +kernel⟩
abbrev s_law : Stmt := topS 26
theorem sc_law : FnScope ["script", "k"] ["script"] (defScope s_law) := ⟨rfl, rfl, rfl, by decide +kernel, rfl, by decide +kernel, by decide +kernel⟩
/-- names that are the built-ins' own, and the constants of the top -/
structure Bi (mg : Str → Option Value) : Prop where
  m_abs : mg "abs" = none
  m_bool : mg "bool" = none
  m_int : mg "int" = none
  m_isinstance : mg "isinstance" = none
  m_len : mg "len" = none
  m_min : mg "min" = none
  m_range : mg "range" = none
  m_sum : mg "sum" = none
  m_tuple : mg "tuple" = none
  c_BYTE : ∃ t, mg "BYTE" = some (.int 255 t)

namespace K00
/-! ## bits -/
theorem add_or : ∀ (x y : Nat), x &&& y = 0 → x + y = x ||| y := by
  intro x
  induction x using Nat.strongRecOn with
  | ind x ih =>
    intro y h
    by_cases hx : x = 0
    · subst hx; simp
    · have h2 : (x / 2) &&& (y / 2) = 0 := by rw [← Nat.and_div_two, h]
      have e := ih (x / 2) (by omega) (y / 2) h2
      have e2 : (x ||| y) / 2 = x / 2 ||| y / 2 := Nat.or_div_two
      have m : (x &&& y) % 2 = 0 := by rw [h]
      have m0 : (x &&& y).testBit 0 = false := by rw [h]; simp
      have o0 : (x ||| y).testBit 0 = (x.testBit 0 || y.testBit 0) := Nat.testBit_or ..
      rw [Nat.testBit_and] at m0
      simp only [Nat.testBit_zero] at m0 o0
      have d := Nat.div_add_mod (x ||| y) 2
      rw [e2, ← e] at d
      have hx2 : x % 2 = 0 ∨ x % 2 = 1 := by omega
      have hy2 : y % 2 = 0 ∨ y % 2 = 1 := by omega
      have ho2 : (x ||| y) % 2 = 0 ∨ (x ||| y) % 2 = 1 := by omega
      rcases hx2 with a | a <;> rcases hy2 with b | b <;> rcases ho2 with c | c <;> simp [a, b, c] at m0 o0 <;> omega
theorem add_or' {x y : Nat} (h : ∀ p, (x.testBit p && y.testBit p) = false) : x + y = x ||| y := add_or x y (Nat.eq_of_testBit_eq fun i => by rw [Nat.testBit_and, h i]; simp)
/-- a bit -/
def bit (w s : Nat) : Nat := w / 2 ^ s % 2
theorem bit_eq (w s : Nat) : bit w s = (w.testBit s).toNat := by
  unfold bit
  rw [Nat.testBit_eq_decide_div_mod_eq]
  by_cases h : w / 2 ^ s % 2 = 1
  · rw [h]; simp
  · have : w / 2 ^ s % 2 = 0 := by omega
    rw [this]; simp
/-- what the spots of w hold; v laid into the spots -/
def hold (w : Nat) : List Nat → Nat
  | [] => 0
  | s :: r => bit w s + 2 * hold w r
def lay (v : Nat) : List Nat → Nat
  | [] => 0
  | s :: r => v % 2 * 2 ^ s + lay (v / 2) r
theorem hold_test (w : Nat) : ∀ (r : List Nat) (k : Nat), (hold w r).testBit k = match r[k]? with | some s => w.testBit s | none => false
  | [], k => by simp [hold]
  | s :: r, 0 => by
    simp only [hold, Nat.testBit_zero, List.getElem?_cons_zero, bit_eq]
    cases w.testBit s <;> simp <;> omega
  | s :: r, k + 1 => by
    have e : (bit w s + 2 * hold w r) / 2 = hold w r := by
      have : bit w s < 2 := Nat.mod_lt _ (by decide)
      omega
    simp only [hold, Nat.testBit_succ, e, List.getElem?_cons_succ]
    exact hold_test w r k
theorem lay_out (p : Nat) : ∀ (r : List Nat) (v : Nat), p ∉ r → r.Nodup → (lay v r).testBit p = false
  | [], v, _, _ => by simp [lay]
  | s :: r, v, hp, hn => by
    rw [List.nodup_cons] at hn
    have h1 := lay_out p r (v / 2) (fun h => hp (List.mem_cons_of_mem _ h)) hn.2
    have h2 := lay_out s r (v / 2) hn.1 hn.2
    have hs : p ≠ s := fun h => hp (h ▸ List.mem_cons_self ..)
    have e : v % 2 * 2 ^ s + lay (v / 2) r = v % 2 * 2 ^ s ||| lay (v / 2) r := add_or' fun q => by
      by_cases hq : q = s
      · subst hq; rw [h2]; simp
      · rcases Nat.mod_two_eq_zero_or_one v with z | z <;> rw [z] <;> simp [Nat.testBit_two_pow]
        intro h; exact absurd h.symm hq
    show (v % 2 * 2 ^ s + lay (v / 2) r).testBit p = false
    rw [e, Nat.testBit_or, h1]
    rcases Nat.mod_two_eq_zero_or_one v with z | z <;> rw [z] <;> simp [Nat.testBit_two_pow]
    exact fun h => hs h.symm
theorem lay_or {s v : Nat} {r : List Nat} (hn : (s :: r).Nodup) : lay v (s :: r) = v % 2 * 2 ^ s ||| lay (v / 2) r := by
  rw [List.nodup_cons] at hn
  refine add_or' fun q => ?_
  by_cases hq : q = s
  · subst hq; rw [lay_out q r _ hn.1 hn.2]; simp
  · rcases Nat.mod_two_eq_zero_or_one v with z | z <;> rw [z] <;> simp [Nat.testBit_two_pow]
    intro h; exact absurd h.symm hq
theorem lay_test : ∀ (r : List Nat) (v k s : Nat), r.Nodup → r[k]? = some s → (lay v r).testBit s = v.testBit k
  | [], _, _, _, _, h => by simp at h
  | a :: r, v, 0, s, hn, h => by
    simp at h; subst h
    have hn' := List.nodup_cons.mp hn
    rw [lay_or hn, Nat.testBit_or, lay_out a r _ hn'.1 hn'.2, Nat.testBit_zero]
    rcases Nat.mod_two_eq_zero_or_one v with z | z <;> rw [z] <;> simp [Nat.testBit_two_pow]
  | a :: r, v, k + 1, s, hn, h => by
    have hn' := List.nodup_cons.mp hn
    have h' : r[k]? = some s := by simpa using h
    have hs : s ≠ a := fun e => hn'.1 (e ▸ List.mem_of_getElem? h')
    rw [lay_or hn, Nat.testBit_or, lay_test r (v / 2) k s hn'.2 h', Nat.testBit_succ]
    rcases Nat.mod_two_eq_zero_or_one v with z | z <;> rw [z] <;> simp [Nat.testBit_two_pow]
    intro e; exact absurd e.symm hs
theorem hold_lay {r : List Nat} {v : Nat} (hn : r.Nodup) (hv : v < 2 ^ r.length) : hold (lay v r) r = v := Nat.eq_of_testBit_eq fun k => by
  rw [hold_test]
  cases h : r[k]? with
  | some s => exact lay_test r v k s hn h
  | none =>
    have : r.length ≤ k := List.getElem?_eq_none_iff.mp h
    rw [Nat.testBit_lt_two_pow (Nat.lt_of_lt_of_le hv (Nat.pow_le_pow_right (by decide) this))]
/-- the word's own bits at the spots -/
def ownB (w : Nat) (r : List Nat) : Nat := (r.map fun s => bit w s * 2 ^ s).sum
theorem lay_hold (w : Nat) : ∀ r : List Nat, lay (hold w r) r = ownB w r
  | [] => rfl
  | s :: r => by
    have hb : bit w s < 2 := Nat.mod_lt _ (by decide)
    have e1 : (bit w s + 2 * hold w r) % 2 = bit w s := by omega
    have e2 : (bit w s + 2 * hold w r) / 2 = hold w r := by omega
    show (bit w s + 2 * hold w r) % 2 * 2 ^ s + lay ((bit w s + 2 * hold w r) / 2) r = _
    rw [e1, e2, lay_hold w r]
    simp [ownB]
theorem ownB_test {w : Nat} {r : List Nat} (hn : r.Nodup) (p : Nat) : (ownB w r).testBit p = (decide (p ∈ r) && w.testBit p) := by
  rw [← lay_hold]
  by_cases h : p ∈ r
  · obtain ⟨k, hk⟩ := List.mem_iff_getElem?.mp h
    rw [lay_test r _ k p hn hk, hold_test, hk]
    simp [h]
  · rw [lay_out p r _ h hn]; simp [h]
/-- the word with other bits at the spots -/
theorem swap {w v : Nat} {r : List Nat} (hn : r.Nodup) (hv : v < 2 ^ r.length) : ownB w r ≤ w ∧ hold (w - ownB w r + lay v r) r = v := by
  have t := ownB_test (w := w) hn
  have e1 : ownB w r + (w ^^^ ownB w r) = w := by
    rw [add_or' fun p => ?_]
    · exact Nat.eq_of_testBit_eq fun p => by
        rw [Nat.testBit_or, Nat.testBit_xor, t p]
        cases decide (p ∈ r) <;> cases w.testBit p <;> rfl
    · rw [Nat.testBit_xor, t p]
      cases decide (p ∈ r) <;> cases w.testBit p <;> rfl
  have e2 : w - ownB w r = w ^^^ ownB w r := by omega
  have lt : ∀ p, p ∉ r → (lay v r).testBit p = false := fun p h => lay_out p r v h hn
  refine ⟨by omega, ?_⟩
  have e3 : (w ^^^ ownB w r) + lay v r = (w ^^^ ownB w r) ||| lay v r := add_or' fun p => by
    rw [Nat.testBit_xor, t p]
    by_cases h : p ∈ r
    · simp [h]
    · rw [lt p h]; simp
  rw [e2, e3]
  refine Nat.eq_of_testBit_eq fun k => ?_
  rw [hold_test]
  cases h : r[k]? with
  | some s =>
    have hm : s ∈ r := List.mem_of_getElem? h
    show ((w ^^^ ownB w r) ||| lay v r).testBit s = _
    rw [Nat.testBit_or, Nat.testBit_xor, t s, lay_test r v k s hn h]
    simp [hm]
  | none =>
    have : r.length ≤ k := List.getElem?_eq_none_iff.mp h
    show false = _
    rw [Nat.testBit_lt_two_pow (Nat.lt_of_lt_of_le hv (Nat.pow_le_pow_right (by decide) this))]
/-! ## pieces -/
def spots : List (Nat × Nat) → List Nat
  | [] => []
  | (l, c) :: r => List.range' l c ++ spots r
def gat (w : Nat) : List (Nat × Nat) → Nat
  | [] => 0
  | (l, c) :: r => w / 2 ^ l % 2 ^ c + 2 ^ c * gat w r
theorem hold_range (w : Nat) (r : List Nat) : ∀ (c l : Nat), hold w (List.range' l c ++ r) = w / 2 ^ l % 2 ^ c + 2 ^ c * hold w r
  | 0, l => by simp [hold, Nat.mod_one]
  | c + 1, l => by
    have ih := hold_range w r c (l + 1)
    rw [List.range'_succ, List.cons_append]
    show bit w l + 2 * hold w (List.range' (l + 1) c ++ r) = _
    rw [ih]
    have e : w / 2 ^ l % 2 ^ (c + 1) = w / 2 ^ l % 2 + 2 * (w / 2 ^ (l + 1) % 2 ^ c) := by
      rw [Nat.pow_succ 2 c, Nat.mul_comm (2 ^ c) 2, Nat.mod_mul, Nat.div_div_eq_div_mul, ← Nat.pow_succ]
    rw [e]
    unfold bit
    rw [Nat.pow_succ 2 c, Nat.mul_add, ← Nat.mul_assoc, Nat.mul_comm 2 (2 ^ c)]
    omega
theorem gat_hold (w : Nat) : ∀ ps, gat w ps = hold w (spots ps)
  | [] => rfl
  | (l, c) :: r => by
    show w / 2 ^ l % 2 ^ c + 2 ^ c * gat w r = hold w (List.range' l c ++ spots r)
    rw [hold_range, gat_hold w r]
theorem lay_range (r : List Nat) : ∀ (c l v : Nat), lay v (List.range' l c ++ r) = v % 2 ^ c * 2 ^ l + lay (v / 2 ^ c) r
  | 0, l, v => by simp [Nat.mod_one]
  | c + 1, l, v => by
    have ih := lay_range r c (l + 1) (v / 2)
    rw [List.range'_succ, List.cons_append]
    show v % 2 * 2 ^ l + lay (v / 2) (List.range' (l + 1) c ++ r) = _
    rw [ih, Nat.div_div_eq_div_mul]
    have e : v % 2 ^ (c + 1) = v % 2 + 2 * (v / 2 % 2 ^ c) := by
      rw [Nat.pow_succ 2 c, Nat.mul_comm (2 ^ c) 2, Nat.mod_mul]
    have e2 : 2 * 2 ^ c = 2 ^ (c + 1) := by rw [Nat.pow_succ, Nat.mul_comm]
    rw [e, e2, Nat.pow_succ 2 l, Nat.add_mul, Nat.mul_comm (2 ^ l) 2, ← Nat.mul_assoc, Nat.mul_comm (v / 2 % 2 ^ c) 2]
    omega
def bitsN (ps : List (Nat × Nat)) : Nat := (ps.map (·.2)).sum
theorem spots_len : ∀ ps, (spots ps).length = bitsN ps
  | [] => rfl
  | (l, c) :: r => by
    show (List.range' l c ++ spots r).length = _
    rw [List.length_append, List.length_range', spots_len r]
    simp [bitsN]
theorem gat_snoc (w l c : Nat) : ∀ ps, gat w (ps ++ [(l, c)]) = gat w ps + 2 ^ bitsN ps * (w / 2 ^ l % 2 ^ c)
  | [] => by simp [gat, bitsN]
  | (a, b) :: r => by
    show w / 2 ^ a % 2 ^ b + 2 ^ b * gat w (r ++ [(l, c)]) = _
    rw [gat_snoc w l c r]
    show _ = w / 2 ^ a % 2 ^ b + 2 ^ b * gat w r + 2 ^ bitsN ((a, b) :: r) * (w / 2 ^ l % 2 ^ c)
    have e : bitsN ((a, b) :: r) = b + bitsN r := by simp [bitsN]
    rw [e, Nat.pow_add, Nat.mul_add, Nat.mul_assoc]
    omega
theorem gat_lt (w : Nat) : ∀ ps, gat w ps < 2 ^ bitsN ps
  | [] => by simp [gat, bitsN]
  | (a, b) :: r => by
    have h := gat_lt w r
    have e : bitsN ((a, b) :: r) = b + bitsN r := by simp [bitsN]
    show w / 2 ^ a % 2 ^ b + 2 ^ b * gat w r < _
    rw [e, Nat.pow_add]
    have h1 : w / 2 ^ a % 2 ^ b < 2 ^ b := Nat.mod_lt _ (Nat.two_pow_pos b)
    have h2 : 2 ^ b * (gat w r + 1) ≤ 2 ^ b * 2 ^ bitsN r := Nat.mul_le_mul_left _ h
    rw [Nat.mul_add] at h2
    omega
theorem gat_or (w l c : Nat) (ps) : gat w (ps ++ [(l, c)]) = gat w ps ||| (w / 2 ^ l % 2 ^ c * 2 ^ bitsN ps) := by
  rw [gat_snoc, Nat.add_comm, Nat.two_pow_add_eq_or_of_lt (gat_lt w ps), Nat.or_comm, Nat.mul_comm]
theorem spots_snoc (l c : Nat) : ∀ ps, spots (ps ++ [(l, c)]) = spots ps ++ List.range' l c
  | [] => by simp [spots]
  | (a, b) :: r => by
    show List.range' a b ++ spots (r ++ [(l, c)]) = List.range' a b ++ spots r ++ List.range' l c
    rw [spots_snoc l c r, List.append_assoc]
theorem spots_append (qs : List (Nat × Nat)) : ∀ ps, spots (ps ++ qs) = spots ps ++ spots qs
  | [] => rfl
  | (a, b) :: r => by
    show List.range' a b ++ spots (r ++ qs) = List.range' a b ++ spots r ++ spots qs
    rw [spots_append qs r, List.append_assoc]
theorem lay_append (r2 : List Nat) : ∀ (r : List Nat) (v : Nat), lay v (r ++ r2) = lay v r + lay (v / 2 ^ r.length) r2
  | [], v => by simp [lay]
  | s :: r, v => by
    show v % 2 * 2 ^ s + lay (v / 2) (r ++ r2) = v % 2 * 2 ^ s + lay (v / 2) r + _
    rw [lay_append r2 r (v / 2), Nat.div_div_eq_div_mul, List.length_cons, Nat.pow_succ, Nat.mul_comm 2]
    omega
/-- one piece more is laid -/
theorem lay_piece {ps : List (Nat × Nat)} {l c v : Nat} (hn : (spots (ps ++ [(l, c)])).Nodup) : lay v (spots (ps ++ [(l, c)])) = lay v (spots ps) ||| (v / 2 ^ bitsN ps % 2 ^ c * 2 ^ l) := by
  rw [spots_snoc] at hn ⊢
  rw [lay_append, spots_len]
  have e := lay_range [] c l (v / 2 ^ bitsN ps)
  rw [List.append_nil] at e
  have e0 : lay (v / 2 ^ bitsN ps / 2 ^ c) [] = 0 := rfl
  rw [e0, Nat.add_zero] at e
  rw [← e]
  have hd := List.nodup_append.mp hn
  refine add_or' fun p => ?_
  by_cases hp : p ∈ spots ps
  · rw [lay_out p (List.range' l c) _ (fun h => hd.2.2 p hp p h rfl) hd.2.1]; simp
  · rw [lay_out p (spots ps) _ hp hd.1]; simp
/-! ## bytes -/
def byteAt (w k : Nat) : Nat := w / 2 ^ (8 * k) % 256
def bytesOf (f : Nat → Nat) : Nat → Nat
  | 0 => 0
  | n + 1 => bytesOf f n + f n % 256 * 2 ^ (8 * n)
theorem bytesOf_lt (f : Nat → Nat) : ∀ n, bytesOf f n < 2 ^ (8 * n)
  | 0 => by simp [bytesOf]
  | n + 1 => by
    have h := bytesOf_lt f n
    have h1 : f n % 256 ≤ 255 := by omega
    have h2 : f n % 256 * 2 ^ (8 * n) ≤ 255 * 2 ^ (8 * n) := Nat.mul_le_mul_right _ h1
    show bytesOf f n + f n % 256 * 2 ^ (8 * n) < 2 ^ (8 * (n + 1))
    rw [show 8 * (n + 1) = 8 * n + 8 from rfl, Nat.pow_add]
    omega
theorem bytesOf_test (f : Nat → Nat) (p : Nat) : ∀ n, (bytesOf f n).testBit p = (decide (p < 8 * n) && (f (p / 8)).testBit (p % 8))
  | 0 => by simp [bytesOf]
  | n + 1 => by
    show (bytesOf f n + f n % 256 * 2 ^ (8 * n)).testBit p = _
    rw [Nat.add_comm, Nat.mul_comm, Nat.two_pow_add_eq_or_of_lt (bytesOf_lt f n), Nat.testBit_or, bytesOf_test f p n, Nat.testBit_two_pow_mul, show (256 : Nat) = 2 ^ 8 from rfl, Nat.testBit_mod_two_pow]
    by_cases h : p < 8 * n
    · have h2 : ¬ p ≥ 8 * n := by omega
      have h3 : p < 8 * (n + 1) := by omega
      simp [h, h2, h3]
    · by_cases h3 : p < 8 * (n + 1)
      · have h2 : p ≥ 8 * n := by omega
        have e1 : p / 8 = n := by omega
        have e2 : p - 8 * n = p % 8 := by omega
        have h4 : p % 8 < 8 := by omega
        simp [h, h2, h3, e1, e2, h4]
      · have h4 : ¬ p - 8 * n < 8 := by omega
        simp [h, h3, h4]
def maskOf (cover : Nat) : Nat → Nat := bytesOf fun k => if bit cover k = 1 then 255 else 0
theorem maskOf_succ (cover n : Nat) : maskOf cover (n + 1) = if bit cover n = 1 then maskOf cover n ||| 255 * 2 ^ (8 * n) else maskOf cover n := by
  show bytesOf (fun k => if bit cover k = 1 then 255 else 0) n + (if bit cover n = 1 then 255 else 0) % 256 * 2 ^ (8 * n) = _
  split
  · rw [Nat.add_comm, Nat.mul_comm, Nat.two_pow_add_eq_or_of_lt (bytesOf_lt _ n), Nat.or_comm, Nat.mul_comm]; rfl
  · simp; rfl
def mergeN (old new mask : Nat) : Nat := (old - (old &&& mask)) ||| (new &&& mask)
theorem sub_and_test (a m p : Nat) : (a - (a &&& m)).testBit p = (a.testBit p && !m.testBit p) := by
  have e : (a &&& m) + (a ^^^ (a &&& m)) = a := by
    rw [add_or' fun p => ?_]
    · exact Nat.eq_of_testBit_eq fun p => by
        rw [Nat.testBit_or, Nat.testBit_xor, Nat.testBit_and]
        cases a.testBit p <;> cases m.testBit p <;> rfl
    · rw [Nat.testBit_xor, Nat.testBit_and]
      cases a.testBit p <;> cases m.testBit p <;> rfl
  have e2 : a - (a &&& m) = a ^^^ (a &&& m) := by omega
  rw [e2, Nat.testBit_xor, Nat.testBit_and]
  cases a.testBit p <;> cases m.testBit p <;> rfl
theorem byteAt_test (w k q : Nat) : (byteAt w k).testBit q = (decide (q < 8) && w.testBit (8 * k + q)) := by
  unfold byteAt
  rw [show (256 : Nat) = 2 ^ 8 from rfl, Nat.testBit_mod_two_pow, Nat.testBit_div_two_pow, Nat.add_comm]
def dueOf (old new cover : Nat) (n : Nat) : Nat := bytesOf (fun k => byteAt (if bit cover k = 1 then new else old) k) n
theorem merge_due {old new cover n : Nat} (ho : old < 2 ^ 64) (hw : new < 2 ^ 64) (hc : cover < 2 ^ n) (hn : n ≤ 8) : mergeN old new (maskOf cover n) = dueOf old new cover 8 := Nat.eq_of_testBit_eq fun p => by
  unfold mergeN dueOf
  rw [Nat.testBit_or, sub_and_test, Nat.testBit_and, bytesOf_test, byteAt_test]
  have em : (maskOf cover n).testBit p = (decide (p < 8 * n) && decide (bit cover (p / 8) = 1)) := by
    unfold maskOf
    rw [bytesOf_test]
    congr 1
    by_cases h : bit cover (p / 8) = 1
    · have l : p % 8 < 8 := by omega
      have e : (255 : Nat).testBit (p % 8) = true := by
        have := Nat.testBit_two_pow_sub_one 8 (p % 8)
        rw [decide_eq_true l] at this
        exact this
      simp [h, e]
    · simp [h]
  have hz : ¬ p < 8 * n → bit cover (p / 8) = 0 := fun h => by
    unfold bit
    have h8 : n ≤ p / 8 := by omega
    rw [Nat.div_eq_of_lt (Nat.lt_of_lt_of_le hc (Nat.pow_le_pow_right (by decide) h8))]
  have e8 : 8 * (p / 8) + p % 8 = p := by omega
  have l8 : p % 8 < 8 := by omega
  rw [em, e8]
  have big : ¬ p < 64 → old.testBit p = false ∧ new.testBit p = false := fun h =>
    ⟨Nat.testBit_lt_two_pow (Nat.lt_of_lt_of_le ho (Nat.pow_le_pow_right (by decide) (by omega))), Nat.testBit_lt_two_pow (Nat.lt_of_lt_of_le hw (Nat.pow_le_pow_right (by decide) (by omega)))⟩
  by_cases h : p < 8 * n
  · have h64 : p < 64 := by omega
    by_cases hb : bit cover (p / 8) = 1 <;> simp [h, hb, h64, l8]
  · have hb := hz h
    by_cases h64 : p < 64
    · simp [h, hb, h64, l8]
    · obtain ⟨b1, b2⟩ := big h64
      simp [h, h64, b1, b2]
end K00

open K00
/-! ## numbers as they come -/
theorem pw {w : Nat} : (1 : Int) * 2 ^ ((w : Int)).toNat = ((2 ^ w : Nat) : Int) := by
  rw [Int.one_mul, Int.toNat_natCast]; push_cast; rfl
theorem pw_pos (w : Nat) : (0 : Int) < 1 * 2 ^ ((w : Int)).toNat := by
  rw [pw]; exact_mod_cast Nat.two_pow_pos w
theorem pw_le {w : Nat} (h : w ≤ 64) : 2 ^ w ≤ 18446744073709551616 := by
  have := Nat.pow_le_pow_right (n := 2) (by decide) h
  simpa using this
theorem divW (i : Int) {w : Nat} (h : w ≤ 200) : CDivW i (1 * 2 ^ ((w : Int)).toNat) := by
  refine wide_div (b := w + 1) (pw_pos w) ?_ (by omega) (by omega)
  rw [pw, Int.natAbs_natCast]
  exact Nat.pow_lt_pow_right (by decide) (Nat.lt_succ_self w)
def pc (p : Nat × Nat) : D := .tup [.int p.1, .int p.2]
def nI (n : Nat) : D := .int n


abbrev P_wrap : List D → D → Prop := fun ds d => ∃ (n : Int) (w : Nat), ds = [.int n, .int w] ∧ (w ≤ 64) ∧ d = .int (n % ((2 ^ w : Nat) : Int))
section
variable {P : Program} {w : World} {K : PySem.W.Frag} {mg : Str → Option Value} {base : Heap}
theorem ok_wrap (B : Bi mg) (A : At K mg "wrap" s_wrap) : Fn P w K mg base "wrap" 1 ["number", "width"] (Pr K P_wrap) := by
  refine Fn.pure A sc_wrap (fun _ _ _ _ _ _ us hl => match us, hl with | [_, _], _ => rfl) (fun ds d h => by obtain ⟨_, _, e, _⟩ := h; subst e; rfl) fun f cdv A outer s H E hr => ⟨_,
    (pss_one (ps_ret (pe_op op_mod (pv 0) (pe_op op_shl pe_int (pv 1))))), ?_⟩
  try dsimp only [cxOf, Cx.nox, Cx.wish]
  intro G os ds d vs Q hO hv hp q
  obtain ⟨n, w, rfl, hpre, rfl⟩ := hp
  obtain ⟨v1, _, rfl, i1, hv⟩ := hv.cons_inv
  obtain ⟨v2, _, rfl, i2, hv⟩ := hv.cons_inv
  have := hv.nil_inv; subst this
  have := i1.int_inv; subst this
  have := i2.int_inv; subst this
  rw [show start ["number", "width"] [V.int n, V.int w] = [some (V.int n), some (V.int w)] from rfl]

  have hp := pw_pos w
  walk_at "st"
  rw [pw]
end

abbrev P_signed : List D → D → Prop := fun ds d => ∃ (v : Int) (w : Nat), ds = [.int v, .int w] ∧ (1 ≤ w ∧ w ≤ 64) ∧ d = .int (if v ≥ ((2 ^ (w - 1) : Nat) : Int) then v - ((2 ^ w : Nat) : Int) else v)
section
variable {P : Program} {w : World} {K : PySem.W.Frag} {mg : Str → Option Value} {base : Heap}
theorem ok_signed (B : Bi mg) (A : At K mg "signed" s_signed) : Fn P w K mg base "signed" 1 ["value", "width"] (Pr K P_signed) := by
  refine Fn.pure A sc_signed (fun _ _ _ _ _ _ us hl => match us, hl with | [_, _], _ => rfl) (fun ds d h => by obtain ⟨_, _, e, _⟩ := h; subst e; rfl) fun f cdv A outer s H E hr => ⟨_,
    (pss_cons (ps_if (pt_cmpR op_ge (pv 0) (pe_op op_shl pe_int (pe_op op_sub (pv 1) pe_int)) (nomark _)) (pss_one (ps_ret (pe_op op_sub (pv 0) (pe_op op_shl pe_int (pv 1))))) pss_nil)
      (pss_one (ps_ret (pv 0)))), ?_⟩
  try dsimp only [cxOf, Cx.nox, Cx.wish]
  intro G os ds d vs Q hO hv hp q
  obtain ⟨v, w, rfl, hpre, rfl⟩ := hp
  obtain ⟨v1, _, rfl, i1, hv⟩ := hv.cons_inv
  obtain ⟨v2, _, rfl, i2, hv⟩ := hv.cons_inv
  have := hv.nil_inv; subst this
  have := i1.int_inv; subst this
  have := i2.int_inv; subst this
  rw [show start ["value", "width"] [V.int v, V.int w] = [some (V.int v), some (V.int w)] from rfl]

  have e : ((w : Int) - 1) = ((w - 1 : Nat) : Int) := by omega
  walk_at "if"
  · intro hb _ _
    walk_at "st"
    rw [e, pw] at hb
    rw [pw, if_pos (of_decide_eq_true hb)]
  · intro hb _ _
    walk_at "st"
    walk_at "st"
    rw [e, pw] at hb
    rw [if_neg (of_decide_eq_false hb)]
end

abbrev P_mask_of : List D → D → Prop := fun ds d => ∃ (l c : Nat), ds = [.int l, .int c] ∧ (l ≤ 64 ∧ c ≤ 64) ∧ d = .int (((2 ^ c - 1) * 2 ^ l : Nat) : Int)
section
variable {P : Program} {w : World} {K : PySem.W.Frag} {mg : Str → Option Value} {base : Heap}
theorem ok_mask_of (B : Bi mg) (A : At K mg "mask_of" s_mask_of) : Fn P w K mg base "mask_of" 1 ["low", "count"] (Pr K P_mask_of) := by
  refine Fn.pure A sc_mask_of (fun _ _ _ _ _ _ us hl => match us, hl with | [_, _], _ => rfl) (fun ds d h => by obtain ⟨_, _, e, _⟩ := h; subst e; rfl) fun f cdv A outer s H E hr => ⟨_,
    (pss_one (ps_ret (pe_op op_shl (pe_op op_sub (pe_op op_shl pe_int (pv 1)) pe_int) (pv 0)))), ?_⟩
  try dsimp only [cxOf, Cx.nox, Cx.wish]
  intro G os ds d vs Q hO hv hp q
  obtain ⟨l, c, rfl, hpre, rfl⟩ := hp
  obtain ⟨v1, _, rfl, i1, hv⟩ := hv.cons_inv
  obtain ⟨v2, _, rfl, i2, hv⟩ := hv.cons_inv
  have := hv.nil_inv; subst this
  have := i1.int_inv; subst this
  have := i2.int_inv; subst this
  rw [show start ["low", "count"] [V.int l, V.int c] = [some (V.int l), some (V.int c)] from rfl]

  have hp := pw_pos c
  have h1 := Nat.two_pow_pos c
  have e : (1 : Int) * 2 ^ ((c : Int)).toNat - 1 = ((2 ^ c - 1 : Nat) : Int) := by rw [pw]; omega
  have h2 : CPow (1 * 2 ^ ((c : Int)).toNat - 1) (l : Int) := by
    have h3 := pw_le hpre.2
    rw [e]
    exact ⟨by omega, by omega, by omega⟩
  walk_at "st"
  rw [e, Int.toNat_natCast]
  push_cast
  rfl
end

abbrev P_full_cover : List D → D → Prop := fun ds d => ∃ (k : Nat), ds = [.int (8 * (k : Int))] ∧ (1 ≤ k ∧ k ≤ 8) ∧ d = .int ((2 ^ k - 1 : Nat) : Int)
section
variable {P : Program} {w : World} {K : PySem.W.Frag} {mg : Str → Option Value} {base : Heap}
theorem ok_full_cover (B : Bi mg) (A : At K mg "full_cover" s_full_cover) : Fn P w K mg base "full_cover" 1 ["width"] (Pr K P_full_cover) := by
  refine Fn.pure A sc_full_cover (fun _ _ _ _ _ _ us hl => match us, hl with | [_], _ => rfl) (fun ds d h => by obtain ⟨_, e, _⟩ := h; subst e; rfl) fun f cdv A outer s H E hr => ⟨_,
    (pss_one (ps_ret (pe_op op_sub (pe_op op_shl pe_int (pe_op op_fdiv (pv 0) pe_int)) pe_int))), ?_⟩
  try dsimp only [cxOf, Cx.nox, Cx.wish]
  intro G os ds d vs Q hO hv hp q
  obtain ⟨k, rfl, hpre, rfl⟩ := hp
  obtain ⟨v1, _, rfl, i1, hv⟩ := hv.cons_inv
  have := hv.nil_inv; subst this
  have := i1.int_inv; subst this
  rw [show start ["width"] [V.int (8 * (k : Int))] = [some (V.int (8 * (k : Int)))] from rfl]

  walk_at "st"
  have h1 := Nat.two_pow_pos k
  have e : (8 * (k : Int)) / 8 = (k : Int) := by omega
  rw [e, pw]
  exact congrArg D.int (by omega)
end

abbrev P_law_cell : List D → D → Prop := fun ds d => ∃ (ns : List Int) (k : Nat), ds = [.lst (ns.map .int), .int k] ∧ (True) ∧ d = .int ((ns.getD k 0).natAbs : Int)
section
variable {P : Program} {w : World} {K : PySem.W.Frag} {mg : Str → Option Value} {base : Heap}
theorem ok_law_cell (B : Bi mg) (A : At K mg "_law_cell" s_law_cell) : Fn P w K mg base "_law_cell" 1 ["script", "k"] (Pr K P_law_cell) := by
  refine Fn.pure A sc_law_cell (fun _ _ _ _ _ _ us hl => match us, hl with | [_, _], _ => rfl) (fun ds d h => by obtain ⟨_, _, e, _⟩ := h; subst e; rfl) fun f cdv A outer s H E hr => ⟨_,
    (pss_cons (ps_if (pt_cmpR op_lt (pv 1) (pe_callB (callLen (K := K) rfl) (by rfl) B.m_len (by decide +kernel) (pa_cons (pv 0) pa_nil)) (nomark _)) (pss_one (ps_ret (pe_callB call_abs (by rfl) B.m_abs (by decide +kernel) (pa_cons (pe_callTy call_int1 (by rfl) B.m_int (by decide +kernel) (pa_cons (pe_ix (ixL (K := K) rfl) (pv 0) (pv 1) (fun _ _ => rfl)) pa_nil)) pa_nil)))) pss_nil)
      (pss_one (ps_ret pe_int))), ?_⟩
  try dsimp only [cxOf, Cx.nox, Cx.wish]
  intro G os ds d vs Q hO hv hp q
  obtain ⟨ns, k, rfl, hpre, rfl⟩ := hp
  obtain ⟨v1, _, rfl, i1, hv⟩ := hv.cons_inv
  obtain ⟨v2, _, rfl, i2, hv⟩ := hv.cons_inv
  have := hv.nil_inv; subst this
  have := i2.int_inv; subst this
  rw [show start ["script", "k"] [v1, V.int k] = [some (v1), some (V.int k)] from rfl]

  walk_at "if"
  · intro hb _ _
    have hlt : k < ns.length := by
      have := of_decide_eq_true hb
      rw [List.length_map] at this
      omega
    have hx : atI (ns.map D.int) (k : Int) = some (.int (ns.getD k 0)) := atI_ints (by omega) (by rw [Int.toNat_natCast, List.getD_eq_getElem?_getD, List.getElem?_eq_getElem hlt]; rfl)
    walk_at "st"
    exact congrArg D.int (by split <;> omega)
  · intro hb _ _
    walk_at "st"
    walk_at "st"
    have hle : ns.length ≤ k := by
      have := of_decide_eq_false hb
      rw [List.length_map] at this
      omega
    rw [List.getD_eq_getElem?_getD, List.getElem?_eq_none hle]
    rfl
end
def mix1 (cell k : Nat) : Nat := (cell * 48271 + k * 69621 + 11) % 2147483647
def mix2 (x k : Nat) : Nat := (x * x + k * 7919 + 3) % 2147483629
def mix3 (x k : Nat) : Nat := (x * x + x / 7 + k) % 2147483587
def mix (cell k : Nat) : Nat := mix3 (mix2 (mix1 cell k) k) k / 3

abbrev P_law_mix : List D → D → Prop := fun ds d => ∃ (cell k : Nat), ds = [.int cell, .int k] ∧ (True) ∧ d = .int (mix cell k : Int)
section
variable {P : Program} {w : World} {K : PySem.W.Frag} {mg : Str → Option Value} {base : Heap}
theorem ok_law_mix (B : Bi mg) (A : At K mg "_law_mix" s_law_mix) : Fn P w K mg base "_law_mix" 1 ["cell", "k"] (Pr K P_law_mix) := by
  refine Fn.pure A sc_law_mix (fun _ _ _ _ _ _ us hl => match us, hl with | [_, _], _ => rfl) (fun ds d h => by obtain ⟨_, _, e, _⟩ := h; subst e; rfl) fun f cdv A outer s H E hr => ⟨_,
    (pss_cons (ps_set (i := 2) sc_law_mix.nd rfl (.inl rfl) (pe_op op_mod (pe_callTy call_int1 (by rfl) B.m_int (by decide +kernel) (pa_cons (pe_op op_add (pe_op op_add (pe_op op_mul (pv 0) pe_int) (pe_op op_mul (pv 1) pe_int)) pe_int) pa_nil)) pe_int))
      (pss_cons (ps_set (i := 2) sc_law_mix.nd rfl (.inl rfl) (pe_op op_mod (pe_callTy call_int1 (by rfl) B.m_int (by decide +kernel) (pa_cons (pe_op op_add (pe_op op_add (pe_op op_mul (pv 2) (pv 2)) (pe_op op_mul (pv 1) pe_int)) pe_int) pa_nil)) pe_int))
      (pss_cons (ps_set (i := 2) sc_law_mix.nd rfl (.inl rfl) (pe_op op_mod (pe_callTy call_int1 (by rfl) B.m_int (by decide +kernel) (pa_cons (pe_op op_add (pe_op op_add (pe_op op_mul (pv 2) (pv 2)) (pe_op op_fdiv (pv 2) pe_int)) (pv 1)) pa_nil)) pe_int))
      (pss_one (ps_ret (pe_op op_fdiv (pv 2) pe_int)))))), ?_⟩
  try dsimp only [cxOf, Cx.nox, Cx.wish]
  intro G os ds d vs Q hO hv hp q
  obtain ⟨cell, k, rfl, hpre, rfl⟩ := hp
  obtain ⟨v1, _, rfl, i1, hv⟩ := hv.cons_inv
  obtain ⟨v2, _, rfl, i2, hv⟩ := hv.cons_inv
  have := hv.nil_inv; subst this
  have := i1.int_inv; subst this
  have := i2.int_inv; subst this
  rw [show start ["cell", "k", "x"] [V.int cell, V.int k] = [some (V.int cell), some (V.int k), none] from rfl]

  walk_at "seq"
  with_reducible refine' s_asgV (n := (mix1 cell k : Int)) ?hO1 ?he1 ?hd1 ?hn1 ?_
  case hO1 => assumption
  case he1 => walk_at "ev"
  case hn1 => walk_at "nrm"
  case hd1 => exact congrArg D.int (by unfold mix1; omega)
  intro _ _
  have h1 : mix1 cell k < 2147483647 := Nat.mod_lt _ (by decide)
  walk_at "seq"
  with_reducible refine' s_asgV (n := (mix2 (mix1 cell k) k : Int)) ?hO2 ?he2 ?hd2 ?hn2 ?_
  case hO2 => assumption
  case he2 => walk_at "ev"
  case hn2 => walk_at "nrm"
  case hd2 => exact congrArg D.int (by unfold mix2; omega)
  intro _ _
  have h2 : mix2 (mix1 cell k) k < 2147483629 := Nat.mod_lt _ (by decide)
  walk_at "seq"
  with_reducible refine' s_asgV (n := (mix3 (mix2 (mix1 cell k) k) k : Int)) ?hO3 ?he3 ?hd3 ?hn3 ?_
  case hO3 => assumption
  case he3 => walk_at "ev"
  case hn3 => walk_at "nrm"
  case hd3 => exact congrArg D.int (by unfold mix3; omega)
  intro _ _
  walk_at "st"
  rfl
end
theorem take_snoc {α : Type} {l : List α} {m : Nat} {x : α} (h : l[m]? = some x) : l.take (m + 1) = l.take m ++ [x] := by
  rw [List.take_add_one, h]; rfl
theorem bitOr_nat (a b : Nat) : Builtin.bitOr (a : Int) (b : Int) = ((a ||| b : Nat) : Int) := by
  rw [bitOr_nn (Int.natCast_nonneg _) (Int.natCast_nonneg _)]; rfl
theorem bitAnd_nat (a b : Nat) : Builtin.bitAnd (a : Int) (b : Int) = ((a &&& b : Nat) : Int) := by
  rw [PyProof.Rows.bitAnd_pp (Int.natCast_nonneg _) (Int.natCast_nonneg _)]; rfl
theorem shl_nat (a s : Nat) : (a : Int) * 2 ^ ((s : Int)).toNat = ((a * 2 ^ s : Nat) : Int) := by
  rw [Int.toNat_natCast]; push_cast; rfl
theorem shr_nat (a s : Nat) : (a : Int) / 2 ^ ((s : Int)).toNat = ((a / 2 ^ s : Nat) : Int) := by
  rw [Int.toNat_natCast]; push_cast; rfl
theorem mask_part (w l c : Nat) : (w &&& (2 ^ c - 1) * 2 ^ l) / 2 ^ l = w / 2 ^ l % 2 ^ c := Nat.eq_of_testBit_eq fun i => by
  rw [Nat.testBit_div_two_pow, Nat.testBit_and, Nat.testBit_mul_two_pow, Nat.testBit_two_pow_sub_one, Nat.testBit_mod_two_pow, Nat.testBit_div_two_pow]
  have e : i + l - l = i := by omega
  have h : i + l ≥ l := by omega
  rw [e]
  cases w.testBit (i + l) <;> simp [h]
theorem part_lt {w l c : Nat} (h : c ≤ 64) : w / 2 ^ l % 2 ^ c < 18446744073709551616 + 0 ∧ w / 2 ^ l % 2 ^ c < 2 ^ c := by
  have h1 : w / 2 ^ l % 2 ^ c < 2 ^ c := Nat.mod_lt _ (Nat.two_pow_pos c)
  have h2 := pw_le h
  exact ⟨by omega, h1⟩
theorem bitsN_take (ps : List (Nat × Nat)) (m : Nat) : bitsN (ps.take m) ≤ bitsN ps := by
  have h := congrArg bitsN (List.take_append_drop m ps)
  unfold bitsN at h ⊢
  rw [List.map_append, List.sum_append] at h
  omega
theorem bitsN_snoc (ps : List (Nat × Nat)) (l c : Nat) : bitsN (ps ++ [(l, c)]) = bitsN ps + c := by
  unfold bitsN; rw [List.map_append, List.sum_append]; simp
theorem pc_at {ps : List (Nat × Nat)} {m : Nat} {x : D} (h : (ps.map pc)[m]? = some x) : ∃ l c, ps[m]? = some (l, c) ∧ x = .tup [.int (l : Int), .int (c : Int)] := by
  rw [List.getElem?_map] at h
  cases e : ps[m]? with
  | none => rw [e] at h; cases h
  | some p => rw [e] at h; cases h; exact ⟨p.1, p.2, rfl, rfl⟩


abbrev P_gather : List D → D → Prop := fun ds d => ∃ (w : Nat) (ps : List (Nat × Nat)), ds = [.int w, .tup (ps.map pc)] ∧ ((∀ p ∈ ps, p.1 + p.2 ≤ 64) ∧ bitsN ps ≤ 64) ∧ d = .int (gat w ps : Int)
section
variable {P : Program} {w : World} {K : PySem.W.Frag} {mg : Str → Option Value} {base : Heap}
theorem ok_gather (B : Bi mg) (A : At K mg "gather" s_gather) (C_mask_of : Fn P w K mg base "mask_of" 1 ["low", "count"] (Pr K P_mask_of)) : Fn P w K mg base "gather" 2 ["word", "pieces"] (Pr K P_gather) := by
  refine Fn.pure A sc_gather (fun _ _ _ _ _ _ us hl => match us, hl with | [_, _], _ => rfl) (fun ds d h => by obtain ⟨_, _, e, _⟩ := h; subst e; rfl) fun f cdv A outer s H E hr => ⟨_,
    (pss_cons (ps_set (i := 2) sc_gather.nd rfl (.inl rfl) pe_int)
      (pss_cons (ps_set (i := 3) sc_gather.nd rfl (.inl rfl) pe_int)
      (pss_cons (ps_for PassesOwn.never rfl (piT (K := K) rfl (pv 1)) (gTupK (K := K) rfl (pg_tup rfl (pgs_cons (pg_name (i := 4) sc_gather.nd rfl (.inl rfl)) (pgs_cons (pg_name (i := 5) sc_gather.nd rfl (.inl rfl)) pgs_nil)))) (pss_cons (ps_set (i := 6) sc_gather.nd rfl (.inl rfl) (pe_op op_shr (pe_op op_and (pv 0) (pe_fn C_mask_of (hr.mono (by decide)) (by rfl) (pa_cons (pv 4) (pa_cons (pv 5) pa_nil)))) (pv 4))) (pss_cons (ps_set (i := 2) sc_gather.nd rfl (.inl rfl) (pe_op op_or (pv 2) (pe_op op_shl (pv 6) (pv 3)))) (pss_one (ps_set (i := 3) sc_gather.nd rfl (.inl rfl) (pe_op op_add (pv 3) (pv 5)))))))
      (pss_one (ps_ret (pv 2)))))), ?_⟩
  try dsimp only [cxOf, Cx.nox, Cx.wish]
  intro G os ds d vs Q hO hv hp q
  obtain ⟨w, ps, rfl, hpre, rfl⟩ := hp
  obtain ⟨v1, _, rfl, i1, hv⟩ := hv.cons_inv
  obtain ⟨v2, _, rfl, i2, hv⟩ := hv.cons_inv
  have := hv.nil_inv; subst this
  have := i1.int_inv; subst this
  rw [show start ["word", "pieces", "value", "shift", "low", "count", "part"] [V.int w, v2] = [some (V.int w), some (v2), none, none, none, none, none] from rfl]

  walk_at "st"
  walk_at "st"
  walk_at "seq"
  with_reducible refine' s_forT (Pv := (fun G' m σ' H' => ∃ a b c, σ' = [some (V.int (w : Int)), some v2, some (V.int (gat w (ps.take m) : Int)), some (V.int (bitsN (ps.take m) : Int)), a, b, c] ∧ Own K G' H' os)) ?hO7 ?he7 ?h07 ?hl7 ?hs7 ?hd7
  case hO7 => assumption
  case he7 => first | walk_at "ea" | walk_at "ev"
  case h07 => intro G' H' e hO'; exact ⟨_, _, _, rfl, hO'⟩
  case hl7 => intro G' m σ' H' ⟨_, _, _, _, hO'⟩; exact hO'.ex
  case hs7 =>
    intro G' m x v σ' H' e hx hv ⟨a, b, c, hσ, hO'⟩
    subst hσ
    obtain ⟨l, c0, hp, rfl⟩ := pc_at hx
    have hb : l + c0 ≤ 64 := hpre.1 (l, c0) (List.mem_of_getElem? hp)
    have hs := bitsN_take ps m
    have hs2 := hpre.2
    refine g_tup2 hv hO'.ex fun w1 w2 j1 j2 => ?_
    have := j1.int_inv; subst this
    have := j2.int_inv; subst this
    dsimp only [List.set]
    obtain ⟨pt, hpt⟩ : ∃ pt, pt = w / 2 ^ l % 2 ^ c0 := ⟨_, rfl⟩
    have hq := (part_lt (w := w) (l := l) (c := c0) (by omega)).1
    rw [← hpt] at hq
    walk_at "seq"
    with_reducible refine' s_asgV (n := (pt : Int)) ?hO4 ?he4 ?hd4 ?hn4 ?_
    case hO4 => assumption
    case he4 => walk_at "ev"
    case hn4 => walk_at "nrm"
    case hd4 => exact congrArg D.int (by rw [bitAnd_nat, shr_nat, mask_part, hpt])
    intro _ _
    walk_at "seq"
    with_reducible refine' s_asgV (n := (gat w (ps.take (m + 1)) : Int)) ?hO5 ?he5 ?hd5 ?hn5 ?_
    case hO5 => assumption
    case he5 => walk_at "ev"
    case hn5 => walk_at "nrm"
    case hd5 => exact congrArg D.int (by rw [shl_nat, bitOr_nat, take_snoc hp, gat_or, hpt])
    intro _ _
    with_reducible refine' s_asgV (n := (bitsN (ps.take (m + 1)) : Int)) ?hO6 ?he6 ?hd6 ?hn6 ?_
    case hO6 => assumption
    case he6 => walk_at "ev"
    case hn6 => walk_at "nrm"
    case hd6 => exact congrArg D.int (by rw [take_snoc hp, bitsN_snoc]; push_cast; rfl)
    intro _ _
    exact ⟨_, _, _, rfl, ‹_›⟩
  case hd7 =>
    intro G' σ' H' e ⟨_, _, _, hσ, hO'⟩
    subst hσ
    walk_at "st"
    rw [List.length_map, List.take_length]
end

abbrev P_spread : List D → D → Prop := fun ds d => ∃ (v : Nat) (ps : List (Nat × Nat)), ds = [.int v, .tup (ps.map pc)] ∧ ((∀ p ∈ ps, p.1 + p.2 ≤ 64) ∧ bitsN ps ≤ 64 ∧ (spots ps).Nodup) ∧ d = .int (lay v (spots ps) : Int)
section
variable {P : Program} {w : World} {K : PySem.W.Frag} {mg : Str → Option Value} {base : Heap}
theorem ok_spread (B : Bi mg) (A : At K mg "spread" s_spread) (C_mask_of : Fn P w K mg base "mask_of" 1 ["low", "count"] (Pr K P_mask_of)) : Fn P w K mg base "spread" 2 ["value", "pieces"] (Pr K P_spread) := by
  refine Fn.pure A sc_spread (fun _ _ _ _ _ _ us hl => match us, hl with | [_, _], _ => rfl) (fun ds d h => by obtain ⟨_, _, e, _⟩ := h; subst e; rfl) fun f cdv A outer s H E hr => ⟨_,
    (pss_cons (ps_set (i := 2) sc_spread.nd rfl (.inl rfl) pe_int)
      (pss_cons (ps_for PassesOwn.never rfl (piT (K := K) rfl (pv 1)) (gTupK (K := K) rfl (pg_tup rfl (pgs_cons (pg_name (i := 3) sc_spread.nd rfl (.inl rfl)) (pgs_cons (pg_name (i := 4) sc_spread.nd rfl (.inl rfl)) pgs_nil)))) (pss_cons (ps_set (i := 5) sc_spread.nd rfl (.inl rfl) (pe_op op_and (pv 0) (pe_fn C_mask_of (hr.mono (by decide)) (by rfl) (pa_cons pe_int (pa_cons (pv 4) pa_nil))))) (pss_cons (ps_set (i := 2) sc_spread.nd rfl (.inl rfl) (pe_op op_or (pv 2) (pe_op op_shl (pv 5) (pv 3)))) (pss_one (ps_set (i := 0) sc_spread.nd rfl (.inl rfl) (pe_op op_shr (pv 0) (pv 4)))))))
      (pss_one (ps_ret (pv 2))))), ?_⟩
  try dsimp only [cxOf, Cx.nox, Cx.wish]
  intro G os ds d vs Q hO hv hp q
  obtain ⟨v, ps, rfl, hpre, rfl⟩ := hp
  obtain ⟨v1, _, rfl, i1, hv⟩ := hv.cons_inv
  obtain ⟨v2, _, rfl, i2, hv⟩ := hv.cons_inv
  have := hv.nil_inv; subst this
  have := i1.int_inv; subst this
  rw [show start ["value", "pieces", "word", "low", "count", "part"] [V.int v, v2] = [some (V.int v), some (v2), none, none, none, none] from rfl]

  walk_at "st"
  walk_at "seq"
  with_reducible refine' s_forT (Pv := (fun G' m σ' H' => ∃ a b c, σ' = [some (V.int (v / 2 ^ bitsN (ps.take m) : Nat)), some v2, some (V.int (lay v (spots (ps.take m)) : Int)), a, b, c] ∧ Own K G' H' os)) ?hO11 ?he11 ?h011 ?hl11 ?hs11 ?hd11
  case hO11 => assumption
  case he11 => first | walk_at "ea" | walk_at "ev"
  case h011 =>
    intro G' H' e hO'
    refine ⟨none, none, none, ?_, hO'⟩
    have e0 : v / 2 ^ bitsN (ps.take 0) = v := Nat.div_one v
    rw [e0]
    rfl
  case hl11 => intro G' m σ' H' ⟨_, _, _, _, hO'⟩; exact hO'.ex
  case hs11 =>
    intro G' m x v' σ' H' e hx hv ⟨a, b, c, hσ, hO'⟩
    subst hσ
    obtain ⟨l, c0, hp, rfl⟩ := pc_at hx
    have hb : l + c0 ≤ 64 := hpre.1 (l, c0) (List.mem_of_getElem? hp)
    refine g_tup2 hv hO'.ex fun w1 w2 j1 j2 => ?_
    have := j1.int_inv; subst this
    have := j2.int_inv; subst this
    dsimp only [List.set]
    obtain ⟨pt, hpt⟩ : ∃ pt, pt = v / 2 ^ bitsN (ps.take m) % 2 ^ c0 := ⟨_, rfl⟩
    have hq := (part_lt (w := v) (l := bitsN (ps.take m)) (c := c0) (by omega)).1
    rw [← hpt] at hq
    have hn : (spots (ps.take m ++ [(l, c0)])).Nodup := by
      have h := hpre.2.2
      rw [← List.take_append_drop (m + 1) ps, spots_append, take_snoc hp] at h
      exact (List.nodup_append.mp h).1
    have hcall : P_mask_of [.int 0, .int (c0 : Int)] (.int (((2 ^ c0 - 1) * 2 ^ 0 : Nat) : Int)) := ⟨0, c0, rfl, ⟨by omega, by omega⟩, rfl⟩
    walk_at "seq"
    with_reducible refine' s_asgV (n := (pt : Int)) ?hO8 ?he8 ?hd8 ?hn8 ?_
    case hO8 => assumption
    case he8 => walk_at "ev"
    case hn8 => walk_at "nrm"
    case hd8 => exact congrArg D.int (by rw [bitAnd_nat]; have := mask_part (v / 2 ^ bitsN (ps.take m)) 0 c0; rw [Nat.pow_zero, Nat.div_one, Nat.div_one] at this; rw [Nat.pow_zero, this, hpt])
    intro _ _
    walk_at "seq"
    with_reducible refine' s_asgV (n := (lay v (spots (ps.take (m + 1))) : Int)) ?hO9 ?he9 ?hd9 ?hn9 ?_
    case hO9 => assumption
    case he9 => walk_at "ev"
    case hn9 => walk_at "nrm"
    case hd9 => exact congrArg D.int (by rw [shl_nat, bitOr_nat, take_snoc hp, lay_piece hn, hpt])
    intro _ _
    with_reducible refine' s_asgV (n := ((v / 2 ^ bitsN (ps.take (m + 1)) : Nat) : Int)) ?hO10 ?he10 ?hd10 ?hn10 ?_
    case hO10 => assumption
    case he10 => walk_at "ev"
    case hn10 => walk_at "nrm"
    case hd10 => exact congrArg D.int (by rw [shr_nat, take_snoc hp, bitsN_snoc, Nat.div_div_eq_div_mul, ← Nat.pow_add])
    intro _ _
    exact ⟨_, _, _, rfl, ‹_›⟩
  case hd11 =>
    intro G' σ' H' e ⟨_, _, _, hσ, hO'⟩
    subst hσ
    walk_at "st"
    rw [List.length_map, List.take_length]
end
theorem mask8 (x : Int) : Builtin.bitAnd x 255 = x % 256 := PySem.W.kbt_mask x 8

abbrev P_byte_at : List D → D → Prop := fun ds d => ∃ (w k : Nat), ds = [.int w, .int k] ∧ (k ≤ 8) ∧ d = .int (byteAt w k : Int)
section
variable {P : Program} {w : World} {K : PySem.W.Frag} {mg : Str → Option Value} {base : Heap}
theorem ok_byte_at (B : Bi mg) (A : At K mg "byte_at" s_byte_at) : Fn P w K mg base "byte_at" 1 ["value", "index"] (Pr K P_byte_at) := by
  obtain ⟨t_BYTE, c_BYTE⟩ := B.c_BYTE
  refine Fn.pure A sc_byte_at (fun _ _ _ _ _ _ us hl => match us, hl with | [_, _], _ => rfl) (fun ds d h => by obtain ⟨_, _, e, _⟩ := h; subst e; rfl) fun f cdv A outer s H E hr => ⟨_,
    (pss_one (ps_ret (pe_op op_and (pe_op op_shr (pv 0) (pe_op op_mul pe_int (pv 1))) (pe_glob (v := .int 255) (by rfl) c_BYTE ⟨_, rfl⟩)))), ?_⟩
  try dsimp only [cxOf, Cx.nox, Cx.wish]
  intro G os ds d vs Q hO hv hp q
  obtain ⟨w, k, rfl, hpre, rfl⟩ := hp
  obtain ⟨v1, _, rfl, i1, hv⟩ := hv.cons_inv
  obtain ⟨v2, _, rfl, i2, hv⟩ := hv.cons_inv
  have := hv.nil_inv; subst this
  have := i1.int_inv; subst this
  have := i2.int_inv; subst this
  rw [show start ["value", "index"] [V.int w, V.int k] = [some (V.int w), some (V.int k)] from rfl]

  walk_at "st"
  rw [mask8, show ((8 : Int) * (k : Int)) = ((8 * k : Nat) : Int) by push_cast; rfl, shr_nat]
  exact congrArg D.int (by unfold byteAt; omega)
end
theorem bits_lt {c : Nat} (h : c < 256) : Builtin.Int.intBits (c : Int) ≤ 8 ∧ c < 2 ^ Builtin.Int.intBits (c : Int) := by
  unfold Builtin.Int.intBits
  by_cases h0 : c = 0
  · subst h0; exact ⟨by decide, by decide⟩
  · have hb : ((c : Int) == 0) = false := by
      rw [beq_eq_false_iff_ne]; omega
    rw [hb]
    have e : ((c : Int)).natAbs = c := Int.natAbs_natCast c
    rw [e]
    have h1 : c.log2 < 8 := (Nat.log2_lt h0).mpr h
    exact ⟨(by show c.log2 + 1 ≤ 8; omega), (by show c < 2 ^ (c.log2 + 1); exact (Nat.log2_lt h0).mp (Nat.lt_succ_self _))⟩

abbrev P_merge : List D → D → Prop := fun ds d => ∃ (o n c : Nat), ds = [.int o, .int n, .int c] ∧ (o < 2 ^ 64 ∧ n < 2 ^ 64 ∧ c < 256) ∧ d = .int (dueOf o n c 8 : Int)
section
variable {P : Program} {w : World} {K : PySem.W.Frag} {mg : Str → Option Value} {base : Heap}
theorem ok_merge (B : Bi mg) (A : At K mg "merge" s_merge) : Fn P w K mg base "merge" 1 ["old", "new", "cover"] (Pr K P_merge) := by
  obtain ⟨t_BYTE, c_BYTE⟩ := B.c_BYTE
  refine Fn.pure A sc_merge (fun _ _ _ _ _ _ us hl => match us, hl with | [_, _, _], _ => rfl) (fun ds d h => by obtain ⟨_, _, _, e, _⟩ := h; subst e; rfl) fun f cdv A outer s H E hr => ⟨_,
    (pss_cons (ps_set (i := 3) sc_merge.nd rfl (.inl rfl) pe_int)
      (pss_cons (ps_for PassesOwn.never rfl (pi_range1 (by rfl) B.m_range (pa_cons (pe_bits (pv 2)) pa_nil)) (pg_name (i := 4) sc_merge.nd rfl (.inl rfl)) (pss_one (ps_if (pt_cmpR op_eq (pe_op op_and (pe_op op_shr (pv 2) (pv 4)) pe_int) pe_int (nomark _)) (pss_one (ps_set (i := 3) sc_merge.nd rfl (.inl rfl) (pe_op op_or (pv 3) (pe_op op_shl (pe_glob (v := .int 255) (by rfl) c_BYTE ⟨_, rfl⟩) (pe_op op_mul pe_int (pv 4)))))) pss_nil)))
      (pss_one (ps_ret (pe_op op_or (pe_op op_and (pv 0) (pe_un un_inv (pv 3))) (pe_op op_and (pv 1) (pv 3))))))), ?_⟩
  try dsimp only [cxOf, Cx.nox, Cx.wish]
  intro G os ds d vs Q hO hv hp q
  obtain ⟨o, n, c, rfl, hpre, rfl⟩ := hp
  obtain ⟨v1, _, rfl, i1, hv⟩ := hv.cons_inv
  obtain ⟨v2, _, rfl, i2, hv⟩ := hv.cons_inv
  obtain ⟨v3, _, rfl, i3, hv⟩ := hv.cons_inv
  have := hv.nil_inv; subst this
  have := i1.int_inv; subst this
  have := i2.int_inv; subst this
  have := i3.int_inv; subst this
  rw [show start ["old", "new", "cover", "mask", "index"] [V.int o, V.int n, V.int c] = [some (V.int o), some (V.int n), some (V.int c), none, none] from rfl]

  obtain ⟨b1, b2⟩ := bits_lt hpre.2.2
  walk_at "st"
  walk_at "seq"
  with_reducible refine' s_forR1 (Pv := (fun m σ' H' => ∃ a, σ' = [some (V.int (o : Int)), some (V.int (n : Int)), some (V.int (c : Int)), some (V.int (maskOf c m : Int)), a] ∧ Own K G H' os)) ?hO12 ?he12 ?hn12 ?h012 ?hs12 ?hd12
  case hO12 => assumption
  case he12 => first | walk_at "ea" | walk_at "ev"
  case hn12 => exact ⟨by omega, by omega⟩
  case h012 => intro H' hO'; exact ⟨_, rfl, hO'⟩
  case hs12 =>
    intro m σ' H' hm ⟨a, hσ, hO'⟩
    subst hσ
    dsimp only [List.set]
    have m8 : m < 8 := by omega
    walk_at "st"
    refine ⟨some (V.int (m : Int)), ?_, ‹_›⟩
    have e : ((8 : Int) * (m : Int)) = ((8 * m : Nat) : Int) := by push_cast; rfl
    have e1 : Builtin.bitAnd ((c / 2 ^ m : Nat) : Int) 1 = ((c / 2 ^ m % 2 : Nat) : Int) := by
      have := PySem.W.kbt_mask ((c / 2 ^ m : Nat) : Int) 1
      exact this.trans (by push_cast; rfl)
    rw [shr_nat, e1, e, show (255 : Int) = ((255 : Nat) : Int) from rfl, shl_nat, bitOr_nat, maskOf_succ]
    by_cases hb : bit c m = 1
    · have hb' : c / 2 ^ m % 2 = 1 := hb
      rw [hb', if_pos hb]
      rfl
    · have hb' : c / 2 ^ m % 2 = 0 := by
        have : bit c m < 2 := Nat.mod_lt _ (by decide)
        unfold bit at this hb
        omega
      rw [hb', if_neg hb]
      rfl
  case hd12 =>
    intro σ' H' ⟨_, hσ, hO'⟩
    subst hσ
    walk_at "st"
    rw [Int.toNat_natCast, ← merge_due hpre.1 hpre.2.1 b2 b1, bitAnd_nat]
    have e : ∀ mk : Nat, Builtin.bitAnd (o : Int) (Builtin.bitNot (mk : Int)) = ((o - (o &&& mk) : Nat) : Int) := fun mk => by
      have h1 : decide (0 ≤ (o : Int)) = true := decide_eq_true (Int.natCast_nonneg _)
      have h2 : decide (0 ≤ Builtin.bitNot (mk : Int)) = false := decide_eq_false (by unfold Builtin.bitNot; omega)
      have h3 : Builtin.bitNot (Builtin.bitNot (mk : Int)) = (mk : Int) := by unfold Builtin.bitNot; omega
      unfold Builtin.bitAnd
      rw [h1, h2, h3]
      have h4 : o &&& mk ≤ o := Nat.and_le_left
      show (o : Int) - (((o : Int).toNat &&& ((mk : Int)).toNat : Nat) : Int) = _
      rw [Int.toNat_natCast, Int.toNat_natCast]
      omega
    rw [e, bitOr_nat]
    rfl
end
def drw (cell base : Nat) : Nat → Nat × List Nat
  | 0 => (cell, [])
  | m + 1 => if cell ≥ 10 ^ 18 ∧ (drw cell base m).1 > 0 then ((drw cell base m).1 / base, (drw cell base m).2 ++ [(drw cell base m).1 % base])
      else ((drw cell base m).1, (drw cell base m).2 ++ [mix (cell % 1000000007) m % base])
theorem drw_yes {cell base m : Nat} (h : cell ≥ 10 ^ 18 ∧ (drw cell base m).1 > 0) : drw cell base (m + 1) = ((drw cell base m).1 / base, (drw cell base m).2 ++ [(drw cell base m).1 % base]) := by
  rw [drw, if_pos h]
theorem drw_no {cell base m : Nat} (h : ¬ (cell ≥ 10 ^ 18 ∧ (drw cell base m).1 > 0)) : drw cell base (m + 1) = ((drw cell base m).1, (drw cell base m).2 ++ [mix (cell % 1000000007) m % base]) := by
  rw [drw, if_neg h]
def draws (cell count base : Nat) : List Nat := (drw cell base count).2
theorem drw_len (cell base : Nat) : ∀ m, (drw cell base m).2.length = m
  | 0 => rfl
  | m + 1 => by
    unfold drw
    split <;> simp [drw_len cell base m]
theorem draws_lt {base : Nat} (hb : 0 < base) (cell : Nat) : ∀ m, ∀ x ∈ (drw cell base m).2, x < base
  | 0, x, h => by simp [drw] at h
  | m + 1, x, h => by
    unfold drw at h
    split at h
    · rcases List.mem_append.mp h with h | h
      · exact draws_lt hb cell m x h
      · rw [List.mem_singleton.mp h]; exact Nat.mod_lt _ hb
    · rcases List.mem_append.mp h with h | h
      · exact draws_lt hb cell m x h
      · rw [List.mem_singleton.mp h]; exact Nat.mod_lt _ hb
def vI (n : Nat) : V := .int n
theorem isA_nI {K : PySem.W.Frag} {H : Hp} : ∀ ns : List Nat, IsA K H (ns.map vI) (ns.map nI)
  | [] => .nil
  | n :: r => .cons (.int n) (isA_nI r)

abbrev P_law_draws : List D → D → Prop := fun ds d => ∃ (cell count base : Nat), ds = [.int cell, .int count, .int base] ∧ ((0 < base ∧ base < 100000) ∧ count ≤ 1000) ∧ d = .lst ((draws cell count base).map nI)
section
variable {P : Program} {w : World} {K : PySem.W.Frag} {mg : Str → Option Value} {base : Heap}
theorem ok_law_draws (B : Bi mg) (A : At K mg "_law_draws" s_law_draws) (C_law_mix : Fn P w K mg base "_law_mix" 1 ["cell", "k"] (Pr K P_law_mix)) : Fn P w K mg base "_law_draws" 2 ["cell", "count", "base"] (Pr K P_law_draws) := by
  refine Fn.pure A sc_law_draws (fun _ _ _ _ _ _ us hl => match us, hl with | [_, _, _], _ => rfl) (fun ds d h => by obtain ⟨_, _, _, e, _⟩ := h; subst e; rfl) fun f cdv A outer s H E hr => ⟨_,
    (pss_cons (ps_set (i := 3) sc_law_draws.nd rfl (.inl rfl) (pv 0))
      (pss_cons (ps_set (i := 4) sc_law_draws.nd rfl (.inl rfl) (pe_op op_mod (pe_callTy call_int1 (by rfl) B.m_int (by decide +kernel) (pa_cons (pv 0) pa_nil)) pe_int))
      (pss_cons (ps_set (i := 5) sc_law_draws.nd rfl (.inl rfl) (pe_lst pa_nil))
      (pss_cons (ps_for PassesOwn.never rfl (pi_range1 (by rfl) B.m_range (pa_cons (pv 1) pa_nil)) (pg_name (i := 6) sc_law_draws.nd rfl (.inl rfl)) (pss_one (ps_if (PW.pt (pw_and (pt_cmpR op_ge (pv 0) (pe_op op_pow pe_int pe_int) (nomark _)) (pw_and1 (pt_cmpR op_gt (pv 3) pe_int (nomark _))))) (pss_cons (ps_expr (bmK (K := K) (id := "list.append") rfl (pe_bm PySem.F.plainAttrs_list PySem.F.slot_list_append PySem.F.type_list_append mt_append (pv 5) (pa_cons (pe_op op_mod (pe_callTy call_int1 (by rfl) B.m_int (by decide +kernel) (pa_cons (pv 3) pa_nil)) (pv 2)) pa_nil)))) (pss_one (ps_set (i := 3) sc_law_draws.nd rfl (.inl rfl) (pe_op op_fdiv (pv 3) (pv 2))))) (pss_one (ps_expr (bmK (K := K) (id := "list.append") rfl (pe_bm PySem.F.plainAttrs_list PySem.F.slot_list_append PySem.F.type_list_append mt_append (pv 5) (pa_cons (pe_op op_mod (pe_callTy call_int1 (by rfl) B.m_int (by decide +kernel) (pa_cons (pe_fn C_law_mix (hr.mono (by decide)) (by rfl) (pa_cons (pv 4) (pa_cons (pv 6) pa_nil))) pa_nil)) (pv 2)) pa_nil))))))))
      (pss_one (ps_ret (pv 5))))))), ?_⟩
  try dsimp only [cxOf, Cx.nox, Cx.wish]
  intro G os ds d vs Q hO hv hp q
  obtain ⟨cell, count, base, rfl, hpre, rfl⟩ := hp
  obtain ⟨v1, _, rfl, i1, hv⟩ := hv.cons_inv
  obtain ⟨v2, _, rfl, i2, hv⟩ := hv.cons_inv
  obtain ⟨v3, _, rfl, i3, hv⟩ := hv.cons_inv
  have := hv.nil_inv; subst this
  have := i1.int_inv; subst this
  have := i2.int_inv; subst this
  have := i3.int_inv; subst this
  rw [show start ["cell", "count", "base", "rest", "small", "row", "k"] [V.int cell, V.int count, V.int base] = [some (V.int cell), some (V.int count), some (V.int base), none, none, none, none] from rfl]

  walk_at "st"
  walk_at "seq"
  with_reducible refine' s_asgV (n := ((cell % 1000000007 : Nat) : Int)) ?hO13 ?he13 ?hd13 ?hn13 ?_
  case hO13 => assumption
  case he13 => walk_at "ev"
  case hn13 => walk_at "nrm"
  case hd13 => exact congrArg D.int (by omega)
  intro _ _
  walk_at "seq"
  with_reducible refine' s_asgE ?hO15 ?_
  case hO15 => assumption
  intro l _ _
  dsimp only [List.set]
  walk_at "seq"
  with_reducible refine' s_forR1 (Pv := (fun m σ' H' => ∃ a, σ' = [some (V.int (cell : Int)), some (V.int (count : Int)), some (V.int (base : Int)), some (V.int ((drw cell base m).1 : Int)), some (V.int ((cell % 1000000007 : Nat) : Int)), some (.ref l), a] ∧ Own K G H' ((l, .lst ((drw cell base m).2.map vI)) :: os))) ?hO16 ?he16 ?hn16 ?h016 ?hs16 ?hd16
  case hO16 => assumption
  case he16 => first | walk_at "ea" | walk_at "ev"
  case hn16 => exact ⟨by omega, by omega⟩
  case h016 => intro H' hO'; exact ⟨_, rfl, hO'⟩
  case hs16 =>
    intro m σ' H' hm ⟨a, hσ, hO'⟩
    subst hσ
    dsimp only [List.set]
    have hlen := drw_len cell base m
    have hz : ((drw cell base m).2.map vI).length < 100000 := by rw [List.length_map]; omega
    have ep : (10 : Int) ^ (18 : Int).toNat = ((10 ^ 18 : Nat) : Int) := by decide
    have hb0 := hpre.1.1
    walk_at "if1"
    · intro hb _ _
      rw [Bool.and_eq_true, decide_eq_true_eq, decide_eq_true_eq, ep] at hb
      have hc : cell ≥ 10 ^ 18 ∧ (drw cell base m).1 > 0 := ⟨by omega, by omega⟩
      walk_at "app"
      with_reducible refine' s_asgV (n := ((drw cell base (m + 1)).1 : Int)) ?hO14 ?he14 ?hd14 ?hn14 ?_
      case hO14 => assumption
      case he14 => walk_at "ev"
      case hn14 => walk_at "nrm"
      case hd14 => exact congrArg D.int (by rw [drw_yes hc]; push_cast; rfl)
      intro _ _
      refine ⟨_, rfl, ?_⟩
      have e : (drw cell base (m + 1)).2.map vI = (drw cell base m).2.map vI ++ [V.int (((drw cell base m).1 : Int) % (base : Int))] := by
        rw [drw_yes hc, List.map_append]; rfl
      rw [e]
      assumption
    · intro hb _ _
      rw [Bool.and_eq_false_iff, decide_eq_false_iff_not, decide_eq_false_iff_not, ep] at hb
      have hc : ¬ (cell ≥ 10 ^ 18 ∧ (drw cell base m).1 > 0) := by omega
      walk_at "app1"
      refine ⟨some (V.int (m : Int)), ?_, ?_⟩
      · have e : (drw cell base (m + 1)).1 = (drw cell base m).1 := by
          rw [drw_no hc]
        rw [e]
      · have e : (drw cell base (m + 1)).2.map vI = (drw cell base m).2.map vI ++ [V.int ((mix (cell % 1000000007) m : Int) % (base : Int))] := by
          rw [drw_no hc, List.map_append]; rfl
        rw [e]
        assumption
  case hd16 =>
    intro σ' H' ⟨_, hσ, hO'⟩
    subst hσ
    exact s_outL (ms := []) q hO' (Evl.Ex.refl _) rfl rfl (isA_nI _)
end
def far (ns : List Int) (k : Nat) : Nat := if k < ns.length then (ns.getD k 0).natAbs else mix ((ns.getD 0 0).natAbs + ns.length) k

abbrev P_law_far : List D → D → Prop := fun ds d => ∃ (ns : List Int) (k : Nat), ds = [.lst (ns.map .int), .int k] ∧ (True) ∧ d = .int (far ns k : Int)
section
variable {P : Program} {w : World} {K : PySem.W.Frag} {mg : Str → Option Value} {base : Heap}
theorem ok_law_far (B : Bi mg) (A : At K mg "_law_far" s_law_far) (C_law_mix : Fn P w K mg base "_law_mix" 1 ["cell", "k"] (Pr K P_law_mix)) (C_law_cell : Fn P w K mg base "_law_cell" 1 ["script", "k"] (Pr K P_law_cell)) : Fn P w K mg base "_law_far" 2 ["script", "k"] (Pr K P_law_far) := by
  refine Fn.pure A sc_law_far (fun _ _ _ _ _ _ us hl => match us, hl with | [_, _], _ => rfl) (fun ds d h => by obtain ⟨_, _, e, _⟩ := h; subst e; rfl) fun f cdv A outer s H E hr => ⟨_,
    (pss_cons (ps_if (pt_cmpR op_lt (pv 1) (pe_callB (callLen (K := K) rfl) (by rfl) B.m_len (by decide +kernel) (pa_cons (pv 0) pa_nil)) (nomark _)) (pss_one (ps_ret (pe_fn C_law_cell (hr.mono (by decide)) (by rfl) (pa_cons (pv 0) (pa_cons (pv 1) pa_nil))))) pss_nil)
      (pss_one (ps_ret (pe_fn C_law_mix (hr.mono (by decide)) (by rfl) (pa_cons (pe_op op_add (pe_fn C_law_cell (hr.mono (by decide)) (by rfl) (pa_cons (pv 0) (pa_cons pe_int pa_nil))) (pe_callB (callLen (K := K) rfl) (by rfl) B.m_len (by decide +kernel) (pa_cons (pv 0) pa_nil))) (pa_cons (pv 1) pa_nil)))))), ?_⟩
  try dsimp only [cxOf, Cx.nox, Cx.wish]
  intro G os ds d vs Q hO hv hp q
  obtain ⟨ns, k, rfl, hpre, rfl⟩ := hp
  obtain ⟨v1, _, rfl, i1, hv⟩ := hv.cons_inv
  obtain ⟨v2, _, rfl, i2, hv⟩ := hv.cons_inv
  have := hv.nil_inv; subst this
  have := i2.int_inv; subst this
  rw [show start ["script", "k"] [v1, V.int k] = [some (v1), some (V.int k)] from rfl]

  walk_at "if"
  · intro hb _ _
    have hlt : k < ns.length := by
      have := of_decide_eq_true hb
      rw [List.length_map] at this
      omega
    walk_at "st"
    exact congrArg D.int (by unfold far; rw [if_pos hlt])
  · intro hb _ _
    have hle : ¬ k < ns.length := by
      have := of_decide_eq_false hb
      rw [List.length_map] at this
      omega
    walk_at "st"
    have h1 : P_law_cell [.lst (ns.map .int), .int 0] (.int ((ns.getD 0 0).natAbs : Int)) := ⟨ns, 0, rfl, trivial, rfl⟩
    have h2 : P_law_mix [.int (((ns.getD 0 0).natAbs : Int) + ((ns.map D.int).length : Int)), .int (k : Int)] (.int (far ns k : Int)) := by
      refine ⟨(ns.getD 0 0).natAbs + ns.length, k, ?_, trivial, ?_⟩
      · rw [List.length_map]; push_cast; rfl
      · unfold far; rw [if_neg hle]
    walk_at "st"
    rfl
end
def wide (cell bound : Nat) : Nat := if cell ≥ 10 ^ 18 then cell % bound else ((mix cell 1 * 715827863 + mix cell 2) * 715827863 + mix cell 3) % bound
theorem mix_lt (cell k : Nat) : mix cell k < 715827863 := by
  have h : mix3 (mix2 (mix1 cell k) k) k < 2147483587 := Nat.mod_lt _ (by decide)
  unfold mix
  omega
theorem p_mix (cell k : Nat) : P_law_mix [.int (cell : Int), .int (k : Int)] (.int (mix cell k : Int)) := ⟨cell, k, rfl, trivial, rfl⟩

abbrev P_law_wide : List D → D → Prop := fun ds d => ∃ (cell bound : Nat), ds = [.int cell, .int bound] ∧ (0 < bound) ∧ d = .int (wide cell bound : Int)
section
variable {P : Program} {w : World} {K : PySem.W.Frag} {mg : Str → Option Value} {base : Heap}
theorem ok_law_wide (B : Bi mg) (A : At K mg "_law_wide" s_law_wide) (C_law_mix : Fn P w K mg base "_law_mix" 1 ["cell", "k"] (Pr K P_law_mix)) : Fn P w K mg base "_law_wide" 2 ["cell", "bound"] (Pr K P_law_wide) := by
  refine Fn.pure A sc_law_wide (fun _ _ _ _ _ _ us hl => match us, hl with | [_, _], _ => rfl) (fun ds d h => by obtain ⟨_, _, e, _⟩ := h; subst e; rfl) fun f cdv A outer s H E hr => ⟨_,
    (pss_cons (ps_if (pt_cmpR op_ge (pv 0) (pe_op op_pow pe_int pe_int) (nomark _)) (pss_one (ps_ret (pe_op op_mod (pe_callTy call_int1 (by rfl) B.m_int (by decide +kernel) (pa_cons (pv 0) pa_nil)) (pv 1)))) pss_nil)
      (pss_cons (ps_set (i := 2) sc_law_wide.nd rfl (.inl rfl) (pe_op op_add (pe_op op_mul (pe_fn C_law_mix (hr.mono (by decide)) (by rfl) (pa_cons (pv 0) (pa_cons pe_int pa_nil))) pe_int) (pe_fn C_law_mix (hr.mono (by decide)) (by rfl) (pa_cons (pv 0) (pa_cons pe_int pa_nil)))))
      (pss_one (ps_ret (pe_op op_mod (pe_callTy call_int1 (by rfl) B.m_int (by decide +kernel) (pa_cons (pe_op op_add (pe_op op_mul (pv 2) pe_int) (pe_fn C_law_mix (hr.mono (by decide)) (by rfl) (pa_cons (pv 0) (pa_cons pe_int pa_nil)))) pa_nil)) (pv 1)))))), ?_⟩
  try dsimp only [cxOf, Cx.nox, Cx.wish]
  intro G os ds d vs Q hO hv hp q
  obtain ⟨cell, bound, rfl, hpre, rfl⟩ := hp
  obtain ⟨v1, _, rfl, i1, hv⟩ := hv.cons_inv
  obtain ⟨v2, _, rfl, i2, hv⟩ := hv.cons_inv
  have := hv.nil_inv; subst this
  have := i1.int_inv; subst this
  have := i2.int_inv; subst this
  rw [show start ["cell", "bound", "high"] [V.int cell, V.int bound] = [some (V.int cell), some (V.int bound), none] from rfl]

  have ep : (10 : Int) ^ (18 : Int).toNat = ((10 ^ 18 : Nat) : Int) := by decide
  have hm1 : P_law_mix [.int (cell : Int), .int 1] (.int (mix cell 1 : Int)) := p_mix cell 1
  have hm2 : P_law_mix [.int (cell : Int), .int 2] (.int (mix cell 2 : Int)) := p_mix cell 2
  have hm3 : P_law_mix [.int (cell : Int), .int 3] (.int (mix cell 3 : Int)) := p_mix cell 3
  walk_at "if"
  · intro hb _ _
    rw [decide_eq_true_eq, ep] at hb
    walk_at "st"
    exact congrArg D.int (by unfold wide; rw [if_pos (by omega)]; omega)
  · intro hb _ _
    rw [decide_eq_false_iff_not, ep] at hb
    walk_at "st"
    walk_at "seq"
    with_reducible refine' s_asgV (n := ((mix cell 1 * 715827863 + mix cell 2 : Nat) : Int)) ?hO17 ?he17 ?hd17 ?hn17 ?_
    case hO17 => assumption
    case he17 => walk_at "ev"
    case hn17 => walk_at "nrm"
    case hd17 => exact congrArg D.int (by omega)
    intro _ _
    walk_at "st"
    exact congrArg D.int (by unfold wide; rw [if_neg (by omega), Int.natCast_emod]; congr 1)
end
theorem isi_int_int (K : PySem.W.Frag) (i : Int) : RC K (rIsi K) [.int i, .ty "int"] (.bl true) := rc_isi (fun _ _ _ h _ => by cases h; exact .base (.int i)) (kit_ty (by decide +kernel))
theorem isi_int_bool (K : PySem.W.Frag) (i : Int) : RC K (rIsi K) [.int i, .ty "bool"] (.bl false) := rc_isi (fun _ _ _ h _ => by cases h; exact .base (.int i)) (kit_ty (by decide +kernel))
local macro_rules | `(tactic| walk_at "rc") => `(tactic| first | exact isi_int_int _ _ | exact isi_int_bool _ _ | exact rc_int | exact rc_abs | exact rc_lenL | exact rc_lenT | exact rc_min2 | exact rc_max2 | exact rc_sumR | exact rc_sum | exact rc_tupL)

abbrev P_law_number : List D → D → Prop := fun ds d => ∃ (i : Int), ds = [.int i] ∧ (True) ∧ d = .bl true
section
variable {P : Program} {w : World} {K : PySem.W.Frag} {mg : Str → Option Value} {base : Heap}
theorem ok_law_number (B : Bi mg) (A : At K mg "_law_number" s_law_number) : Fn P w K mg base "_law_number" 1 ["x"] (Pr K P_law_number) := by
  refine Fn.pure A sc_law_number (fun _ _ _ _ _ _ us hl => match us, hl with | [_], _ => rfl) (fun ds d h => by obtain ⟨_, e, _⟩ := h; subst e; rfl) fun f cdv A outer s H E hr => ⟨_,
    (pss_one (ps_ret (pe_and (pe_callB (callIsi (K := K) rfl) (by rfl) B.m_isinstance (by decide +kernel) (pa_cons (pv 0) (pa_cons (pe_bltn (v := .ty "int") (by rfl) B.m_int (by decide +kernel) rfl) pa_nil))) (pe_one (pe_not (pe_callB (callIsi (K := K) rfl) (by rfl) B.m_isinstance (by decide +kernel) (pa_cons (pv 0) (pa_cons (pe_bltn (v := .ty "bool") (by rfl) B.m_bool (by decide +kernel) rfl) pa_nil)))))))), ?_⟩
  try dsimp only [cxOf, Cx.nox, Cx.wish]
  intro G os ds d vs Q hO hv hp q
  obtain ⟨i, rfl, hpre, rfl⟩ := hp
  obtain ⟨v1, _, rfl, i1, hv⟩ := hv.cons_inv
  have := hv.nil_inv; subst this
  have := i1.int_inv; subst this
  rw [show start ["x"] [V.int i] = [some (V.int i)] from rfl]

  walk_at "st"
  rfl
end

abbrev P_law_bit : List D → D → Prop := fun ds d => ∃ (w s : Nat), ds = [.int w, .int s] ∧ (s ≤ 100) ∧ d = .int (bit w s : Int)
section
variable {P : Program} {w : World} {K : PySem.W.Frag} {mg : Str → Option Value} {base : Heap}
theorem ok_law_bit (B : Bi mg) (A : At K mg "_law_bit" s_law_bit) : Fn P w K mg base "_law_bit" 1 ["number", "spot"] (Pr K P_law_bit) := by
  refine Fn.pure A sc_law_bit (fun _ _ _ _ _ _ us hl => match us, hl with | [_, _], _ => rfl) (fun ds d h => by obtain ⟨_, _, e, _⟩ := h; subst e; rfl) fun f cdv A outer s H E hr => ⟨_,
    (pss_one (ps_ret (pe_op op_mod (pe_callTy call_int1 (by rfl) B.m_int (by decide +kernel) (pa_cons (pe_op op_fdivW (pv 0) (pe_op op_shl pe_int (pv 1))) pa_nil)) pe_int))), ?_⟩
  try dsimp only [cxOf, Cx.nox, Cx.wish]
  intro G os ds d vs Q hO hv hp q
  obtain ⟨w, s, rfl, hpre, rfl⟩ := hp
  obtain ⟨v1, _, rfl, i1, hv⟩ := hv.cons_inv
  obtain ⟨v2, _, rfl, i2, hv⟩ := hv.cons_inv
  have := hv.nil_inv; subst this
  have := i1.int_inv; subst this
  have := i2.int_inv; subst this
  rw [show start ["number", "spot"] [V.int w, V.int s] = [some (V.int w), some (V.int s)] from rfl]

  have hp := divW (w : Int) (w := s) (by omega)
  walk_at "st"
  rw [pw]
  rfl
end

abbrev P_law_byte : List D → D → Prop := fun ds d => ∃ (w k : Nat), ds = [.int w, .int k] ∧ (k ≤ 8) ∧ d = .int (byteAt w k : Int)
section
variable {P : Program} {w : World} {K : PySem.W.Frag} {mg : Str → Option Value} {base : Heap}
theorem ok_law_byte (B : Bi mg) (A : At K mg "_law_byte" s_law_byte) : Fn P w K mg base "_law_byte" 1 ["number", "k"] (Pr K P_law_byte) := by
  refine Fn.pure A sc_law_byte (fun _ _ _ _ _ _ us hl => match us, hl with | [_, _], _ => rfl) (fun ds d h => by obtain ⟨_, _, e, _⟩ := h; subst e; rfl) fun f cdv A outer s H E hr => ⟨_,
    (pss_one (ps_ret (pe_op op_mod (pe_callTy call_int1 (by rfl) B.m_int (by decide +kernel) (pa_cons (pe_op op_fdivW (pv 0) (pe_op op_shl pe_int (pe_op op_mul pe_int (pv 1)))) pa_nil)) pe_int))), ?_⟩
  try dsimp only [cxOf, Cx.nox, Cx.wish]
  intro G os ds d vs Q hO hv hp q
  obtain ⟨w, k, rfl, hpre, rfl⟩ := hp
  obtain ⟨v1, _, rfl, i1, hv⟩ := hv.cons_inv
  obtain ⟨v2, _, rfl, i2, hv⟩ := hv.cons_inv
  have := hv.nil_inv; subst this
  have := i1.int_inv; subst this
  have := i2.int_inv; subst this
  rw [show start ["number", "k"] [V.int w, V.int k] = [some (V.int w), some (V.int k)] from rfl]

  have e : ((8 : Int) * (k : Int)) = ((8 * k : Nat) : Int) := by push_cast; rfl
  have hp : CDivW (w : Int) (1 * 2 ^ ((8 : Int) * (k : Int)).toNat) := by rw [e]; exact divW _ (by omega)
  walk_at "st"
  rw [e, pw]
  rfl
end
/-! ## pieces -/
/-- one turn: d the draws, st = (low, pieces) -/
def cap (a n : Nat) : Nat := if n < a then n else a
def psize (d : List Nat) (k low : Nat) : Nat := 1 + d.getD (3 + 3 * k) 0 % (if d.getD 0 0 % 2 = 1 then cap (64 - low) 9 else 64 - low)
def pgap (d : List Nat) (k low : Nat) : Nat := d.getD (2 + 3 * k) 0 % (if d.getD 0 0 % 2 = 1 then cap (64 - low) 5 else 64 - low)
def pst (d : List Nat) : Nat → Nat × List (Nat × Nat)
  | 0 => (0, [])
  | k + 1 => if (pst d k).1 > 63 then pst d k else
      ((pst d k).1 + pgap d k (pst d k).1 + psize d k ((pst d k).1 + pgap d k (pst d k).1),
        (pst d k).2.take (d.getD (4 + 3 * k) 0 % ((pst d k).2.length + 1)) ++ [((pst d k).1 + pgap d k (pst d k).1, psize d k ((pst d k).1 + pgap d k (pst d k).1))] ++ (pst d k).2.drop (d.getD (4 + 3 * k) 0 % ((pst d k).2.length + 1)))
theorem pst_go {d : List Nat} {k : Nat} (h : (pst d k).1 ≤ 63) : pst d (k + 1) =
      ((pst d k).1 + pgap d k (pst d k).1 + psize d k ((pst d k).1 + pgap d k (pst d k).1),
        (pst d k).2.take (d.getD (4 + 3 * k) 0 % ((pst d k).2.length + 1)) ++ [((pst d k).1 + pgap d k (pst d k).1, psize d k ((pst d k).1 + pgap d k (pst d k).1))] ++ (pst d k).2.drop (d.getD (4 + 3 * k) 0 % ((pst d k).2.length + 1))) := by
  rw [pst, if_neg (by omega)]
theorem pst_stop {d : List Nat} {k : Nat} (h : (pst d k).1 > 63) : ∀ n, pst d (k + n) = pst d k
  | 0 => rfl
  | n + 1 => by
    have ih := pst_stop h n
    show pst d ((k + n) + 1) = _
    rw [pst, ih, if_pos h]
theorem pgap_lt {d : List Nat} {k low : Nat} (h : low ≤ 63) : low + pgap d k low ≤ 63 := by
  unfold pgap
  have h1 : 0 < (if d.getD 0 0 % 2 = 1 then cap (64 - low) 5 else 64 - low) := by unfold cap; split <;> (try split) <;> omega
  have h2 := Nat.mod_lt (d.getD (2 + 3 * k) 0) h1
  have h3 : (if d.getD 0 0 % 2 = 1 then cap (64 - low) 5 else 64 - low) ≤ 64 - low := by unfold cap; split <;> (try split) <;> omega
  omega
theorem psize_le {d : List Nat} {k low : Nat} (h : low ≤ 63) : 1 ≤ psize d k low ∧ low + psize d k low ≤ 64 := by
  unfold psize
  have h1 : 0 < (if d.getD 0 0 % 2 = 1 then cap (64 - low) 9 else 64 - low) := by unfold cap; split <;> (try split) <;> omega
  have h2 := Nat.mod_lt (d.getD (3 + 3 * k) 0) h1
  have h3 : (if d.getD 0 0 % 2 = 1 then cap (64 - low) 9 else 64 - low) ≤ 64 - low := by unfold cap; split <;> (try split) <;> omega
  omega
theorem ins_perm {α : Type} (l : List α) (i : Nat) (x : α) : (l.take i ++ [x] ++ l.drop i).Perm (x :: l) := by
  have h : (l.take i ++ [x] ++ l.drop i).Perm ([x] ++ l.take i ++ l.drop i) := List.Perm.append_right _ List.perm_append_comm
  rw [List.append_assoc [x], List.take_append_drop] at h
  exact h
/-- all pieces end at or below low; no two share a bit -/
theorem pst_ok (d : List Nat) : ∀ k, (∀ p ∈ (pst d k).2, p.1 + p.2 ≤ (pst d k).1) ∧ (pst d k).1 ≤ 64 ∧ (spots (pst d k).2).Nodup ∧ (pst d k).2.length ≤ k ∧ bitsN (pst d k).2 ≤ (pst d k).1
  | 0 => ⟨fun p h => by simp [pst] at h, by simp [pst], by simp [pst, spots], by simp [pst], by simp [pst, bitsN]⟩
  | k + 1 => by
    obtain ⟨h1, h2, h3, h4, h5⟩ := pst_ok d k
    by_cases hs : (pst d k).1 > 63
    · rw [pst, if_pos hs]
      exact ⟨h1, h2, h3, by omega, h5⟩
    · rw [pst, if_neg hs]
      have hg := pgap_lt (d := d) (k := k) (low := (pst d k).1) (by omega)
      have hz := psize_le (d := d) (k := k) (low := (pst d k).1 + pgap d k (pst d k).1) hg
      generalize pgap d k (pst d k).1 = g at hg hz ⊢
      generalize psize d k ((pst d k).1 + g) = z at hz ⊢
      generalize d.getD (4 + 3 * k) 0 % ((pst d k).2.length + 1) = i
      generalize pst d k = st at *
      obtain ⟨low, ps⟩ := st
      dsimp only at *
      have pm := ins_perm ps i (low + g, z)
      have sp : ∀ a b : List (Nat × Nat), a.Perm b → (spots a).Perm (spots b) := fun a b h => by
        have e : ∀ l : List (Nat × Nat), spots l = l.flatMap fun p => List.range' p.1 p.2 := fun l => by
          induction l with
          | nil => rfl
          | cons p r ih => show List.range' p.1 p.2 ++ spots r = _; rw [ih, List.flatMap_cons]
        rw [e, e]
        exact h.flatMap_right _
      refine ⟨fun p hp => ?_, by omega, ?_, ?_, ?_⟩
      · rcases List.mem_cons.mp (pm.mem_iff.mp hp) with q | q
        · subst q; dsimp only; omega
        · have := h1 p q; omega
      · rw [(sp _ _ pm).nodup_iff]
        show (List.range' (low + g) z ++ spots ps).Nodup
        rw [List.nodup_append]
        refine ⟨List.nodup_range', h3, fun a ha b hb e => ?_⟩
        subst e
        have r1 := List.mem_range'_1.mp ha
        have r2 : ∀ l : List (Nat × Nat), (∀ p ∈ l, p.1 + p.2 ≤ low) → ∀ x ∈ spots l, x < low := fun l => by
          induction l with
          | nil => intro _ x hx; simp [spots] at hx
          | cons p r ih =>
            intro hl x hx
            rcases List.mem_append.mp (show x ∈ List.range' p.1 p.2 ++ spots r from hx) with q | q
            · have := List.mem_range'_1.mp q
              have := hl p (List.mem_cons_self ..)
              omega
            · exact ih (fun p hp => hl p (List.mem_cons_of_mem _ hp)) x q
        have := r2 ps h1 a hb
        omega
      · rw [pm.length_eq, List.length_cons]; omega
      · have e := (pm.map (·.2)).sum_nat
        unfold bitsN at h5 ⊢
        rw [e]
        show z + (ps.map (·.2)).sum ≤ _
        omega
theorem at_nI {d : List Nat} {j : Nat} (h : j < d.length) {i : Int} (e : i = (j : Int)) : atI (d.map nI) i = some (.int (d.getD j 0 : Int)) := by
  rw [e]
  refine atI_nat ?_
  rw [List.getElem?_map, List.getElem?_eq_getElem h, List.getD_eq_getElem?_getD, List.getElem?_eq_getElem h]
  rfl
def pieces (cell : Nat) : List (Nat × Nat) := (pst (draws cell 20 1000) ((draws cell 20 1000).getD 1 0 % 7)).2

abbrev P_law_pieces : List D → D → Prop := fun ds d => ∃ (cell : Nat), ds = [.int cell] ∧ (True) ∧ d = .lst ((pieces cell).map pc)
section
variable {P : Program} {w : World} {K : PySem.W.Frag} {mg : Str → Option Value} {base : Heap}
theorem ok_law_pieces (B : Bi mg) (A : At K mg "_law_pieces" s_law_pieces) (C_law_draws : Fn P w K mg base "_law_draws" 2 ["cell", "count", "base"] (Pr K P_law_draws)) : Fn P w K mg base "_law_pieces" 3 ["cell"] (Pr K P_law_pieces) := by
  refine Fn.pure A sc_law_pieces (fun _ _ _ _ _ _ us hl => match us, hl with | [_], _ => rfl) (fun ds d h => by obtain ⟨_, e, _⟩ := h; subst e; rfl) fun f cdv A outer s H E hr => ⟨_,
    (pss_cons (ps_set (i := 1) sc_law_pieces.nd rfl (.inl rfl) (pe_fn C_law_draws (hr.mono (by decide)) (by rfl) (pa_cons (pv 0) (pa_cons pe_int (pa_cons pe_int pa_nil)))))
      (pss_cons (ps_set (i := 2) sc_law_pieces.nd rfl (.inl rfl) (pe_lst pa_nil))
      (pss_cons (ps_set (i := 3) sc_law_pieces.nd rfl (.inl rfl) pe_int)
      (Evl.pss_cut (ps_for PassesOwn.never rfl (pi_range1 (by rfl) B.m_range (pa_cons (pe_op op_mod (pe_callTy call_int1 (by rfl) B.m_int (by decide +kernel) (pa_cons (pe_ix (ixL (K := K) rfl) (pv 1) pe_int (fun _ _ => rfl)) pa_nil)) pe_int) pa_nil)) (pg_name (i := 4) sc_law_pieces.nd rfl (.inl rfl)) (pss_cons (ps_if (pt_cmpR op_gt (pv 3) pe_int (nomark _)) (pss_one ps_break) pss_nil) (pss_cons (ps_set (i := 5) sc_law_pieces.nd rfl (.inl rfl) (pe_op op_sub pe_int (pv 3))) (pss_cons (ps_if (pt_cmpR op_eq (pe_op op_mod (pe_ix (ixL (K := K) rfl) (pv 1) pe_int (fun _ _ => rfl)) pe_int) pe_int (nomark _)) (pss_one (ps_set (i := 5) sc_law_pieces.nd rfl (.inl rfl) (pe_callB (call_min2 rfl) (by rfl) B.m_min (by decide +kernel) (pa_cons (pv 5) (pa_cons pe_int pa_nil))))) pss_nil) (pss_cons (ps_set (i := 3) sc_law_pieces.nd rfl (.inl rfl) (pe_op op_add (pv 3) (pe_op op_mod (pe_callTy call_int1 (by rfl) B.m_int (by decide +kernel) (pa_cons (pe_ix (ixL (K := K) rfl) (pv 1) (pe_op op_add pe_int (pe_op op_mul pe_int (pv 4))) (fun _ _ => rfl)) pa_nil)) (pv 5)))) (pss_cons (ps_set (i := 6) sc_law_pieces.nd rfl (.inl rfl) (pe_op op_sub pe_int (pv 3))) (pss_cons (ps_if (pt_cmpR op_eq (pe_op op_mod (pe_ix (ixL (K := K) rfl) (pv 1) pe_int (fun _ _ => rfl)) pe_int) pe_int (nomark _)) (pss_one (ps_set (i := 6) sc_law_pieces.nd rfl (.inl rfl) (pe_callB (call_min2 rfl) (by rfl) B.m_min (by decide +kernel) (pa_cons (pv 6) (pa_cons pe_int pa_nil))))) pss_nil) (pss_cons (ps_set (i := 7) sc_law_pieces.nd rfl (.inl rfl) (pe_op op_add pe_int (pe_op op_mod (pe_callTy call_int1 (by rfl) B.m_int (by decide +kernel) (pa_cons (pe_ix (ixL (K := K) rfl) (pv 1) (pe_op op_add pe_int (pe_op op_mul pe_int (pv 4))) (fun _ _ => rfl)) pa_nil)) (pv 6)))) (pss_cons (ps_expr (bmK (K := K) (id := "list.insert") rfl (pe_bm PySem.F.plainAttrs_list PySem.F.slot_list_insert PySem.F.type_list_insert mt_insert (pv 2) (pa_cons (pe_op op_mod (pe_callTy call_int1 (by rfl) B.m_int (by decide +kernel) (pa_cons (pe_ix (ixL (K := K) rfl) (pv 1) (pe_op op_add pe_int (pe_op op_mul pe_int (pv 4))) (fun _ _ => rfl)) pa_nil)) (pe_op op_add (pe_callB (callLen (K := K) rfl) (by rfl) B.m_len (by decide +kernel) (pa_cons (pv 2) pa_nil)) pe_int)) (pa_cons (pe_tup (pa_cons (pv 3) (pa_cons (pv 7) pa_nil))) pa_nil))))) (pss_one (ps_set (i := 3) sc_law_pieces.nd rfl (.inl rfl) (pe_op op_add (pv 3) (pv 7)))))))))))))
      (pss_one (ps_ret (pv 2))))))), ?_⟩
  try dsimp only [cxOf, Cx.nox, Cx.wish]
  intro G os ds d vs Q hO hv hp q
  obtain ⟨cell, rfl, hpre, rfl⟩ := hp
  obtain ⟨v1, _, rfl, i1, hv⟩ := hv.cons_inv
  have := hv.nil_inv; subst this
  have := i1.int_inv; subst this
  rw [show start ["cell", "draws", "pieces", "low", "k", "most_gap", "most_size", "size"] [V.int cell] = [some (V.int cell), none, none, none, none, none, none, none] from rfl]

  have hcall : P_law_draws [.int (cell : Int), .int 20, .int 1000] (.lst ((draws cell 20 1000).map nI)) := ⟨cell, 20, 1000, rfl, ⟨by decide, by decide⟩, rfl⟩
  walk_at "seq"
  with_reducible refine' s_asg ?hO25 ?he25 ?hn25 ?_
  case hO25 => assumption
  case he25 => walk_at "ev"
  case hn25 => intro _; rfl
  intro v1 G1 H1 e1 hO1 i1
  dsimp only [List.set]
  obtain ⟨d, hd⟩ : ∃ d, d = draws cell 20 1000 := ⟨_, rfl⟩
  have hl : d.length = 20 := by rw [hd]; exact drw_len cell 1000 20
  rw [← hd] at i1
  have a0 : atI (d.map nI) 0 = some (.int (d.getD 0 0 : Int)) := at_nI (by omega) rfl
  have a1 : atI (d.map nI) 1 = some (.int (d.getD 1 0 : Int)) := at_nI (by omega) rfl
  walk_at "seq"
  with_reducible refine' s_asgE ?hO26 ?_
  case hO26 => assumption
  intro l _ _
  dsimp only [List.set]
  walk_at "st"
  have e7 : ((d.getD 1 0 : Int) % 7).toNat = d.getD 1 0 % 7 := by omega
  with_reducible refine' s_cut (M := fun σ' H' => ∃ a b c e G2 xs low, σ' = [some (V.int (cell : Int)), some v1, some (V.ref l), some (V.int low), a, b, c, e] ∧ Evl.Ex G1 G2 ∧ Own K G2 H' ((l, .lst xs) :: os) ∧ IsA K G2 xs ((pieces cell).map pc)) ?loop ?after
  case after =>
    intro σ' H' ⟨_, _, _, _, G2, xs, low, hσ, e2, hO2, hxs⟩
    subst hσ
    exact s_outL (ms := []) q hO2 (e1.trans e2) rfl rfl hxs
  case loop =>
    with_reducible refine' s_forR1 (Pv := (fun m σ' H' => ∃ a b c e G2 xs, σ' = [some (V.int (cell : Int)), some v1, some (V.ref l), some (V.int ((pst d m).1 : Int)), a, b, c, e] ∧ Evl.Ex G1 G2 ∧ Own K G2 H' ((l, .lst xs) :: os) ∧ IsA K G2 xs ((pst d m).2.map pc))) ?hO27 ?he27 ?hn27 ?h027 ?hs27 ?hd27
    case hO27 => assumption
    case he27 => first | walk_at "ea" | walk_at "ev"
    case hn27 => exact ⟨by omega, by omega⟩
    case h027 => intro H' hO'; exact ⟨none, none, none, none, G1, [], rfl, Evl.Ex.refl _, hO', .nil⟩
    case hd27 =>
      intro σ' H' ⟨a, b, c, e, G2, xs, hσ, e2, hO2, hxs⟩
      rw [e7] at hσ hxs
      refine ⟨a, b, c, e, G2, xs, _, hσ, e2, hO2, ?_⟩
      unfold pieces
      rw [← hd]
      exact hxs
    case hs27 =>
      intro m σ' H' hm ⟨a, b, c, e, G2, xs, hσ, e2, hO2, hxs⟩
      subst hσ
      dsimp only [List.set]
      obtain ⟨o1, o2, o3, o4, o5⟩ := pst_ok d m
      have hm7 : m < 7 := by omega
      have a2 : atI (d.map nI) (2 + 3 * (m : Int)) = some (.int (d.getD (2 + 3 * m) 0 : Int)) := at_nI (by omega) (by push_cast; rfl)
      have a3 : atI (d.map nI) (3 + 3 * (m : Int)) = some (.int (d.getD (3 + 3 * m) 0 : Int)) := at_nI (by omega) (by push_cast; rfl)
      have a4 : atI (d.map nI) (4 + 3 * (m : Int)) = some (.int (d.getD (4 + 3 * m) 0 : Int)) := at_nI (by omega) (by push_cast; rfl)
      walk_at "if"
      · intro hb _ hO'
        rw [decide_eq_true_eq] at hb
        with_reducible refine' s_brk ?_
        refine ⟨_, b, c, e, G2, xs, _, rfl, e2, hO', ?_⟩
        unfold pieces
        rw [← hd]
        have hs := pst_stop (d := d) (k := m) (by omega) (d.getD 1 0 % 7 - m)
        rw [show m + (d.getD 1 0 % 7 - m) = d.getD 1 0 % 7 by omega] at hs
        rw [hs]
        exact hxs
      · intro hb _ _
        rw [decide_eq_false_iff_not] at hb
        walk_at "st"
        have hlow : (pst d m).1 ≤ 63 := by omega
        have hg := pgap_lt (d := d) (k := m) hlow
        have hz := psize_le (d := d) (k := m) hg
        have hst := pst_go (d := d) (k := m) hlow
        walk_at "seq"
        with_reducible refine' s_asgV (n := ((64 - (pst d m).1 : Nat) : Int)) ?hO18 ?he18 ?hd18 ?hn18 ?_
        case hO18 => assumption
        case he18 => walk_at "ev"
        case hn18 => walk_at "nrm"
        case hd18 => exact congrArg D.int (by omega)
        intro _ _
        walk_at "seq"
        with_reducible refine' s_ifV (n := ((if d.getD 0 0 % 2 = 1 then cap (64 - (pst d m).1) 5 else 64 - (pst d m).1 : Nat) : Int)) ?hx23 ?hO23 ?ht23 ?he23 ?hd23 ?hn23 ?_
        case hO23 => assumption
        case ht23 => walk_at "et"
        case hx23 => rfl
        case he23 => intro _; walk_at "ev"
        case hn23 => walk_at "nrm"
        case hd23 => exact (by by_cases z : d.getD 0 0 % 2 = 1; (rw [if_pos z, if_pos (decide_eq_true (by omega))]; unfold cap; split <;> split <;> omega); (rw [if_neg z, if_neg (by rw [decide_eq_true_eq]; omega)]))
        intro _ _
        have hp : (0 : Int) < ((if d.getD 0 0 % 2 = 1 then cap (64 - (pst d m).1) 5 else 64 - (pst d m).1 : Nat) : Int) := by unfold cap; split <;> (try split) <;> omega
        walk_at "seq"
        with_reducible refine' s_asgV (n := (((pst d m).1 + pgap d m (pst d m).1 : Nat) : Int)) ?hO19 ?he19 ?hd19 ?hn19 ?_
        case hO19 => assumption
        case he19 => walk_at "ev"
        case hn19 => walk_at "nrm"
        case hd19 => exact congrArg D.int (by unfold pgap; push_cast; rfl)
        intro _ _
        generalize hlo : (pst d m).1 + pgap d m (pst d m).1 = lo at *
        walk_at "seq"
        with_reducible refine' s_asgV (n := ((64 - lo : Nat) : Int)) ?hO20 ?he20 ?hd20 ?hn20 ?_
        case hO20 => assumption
        case he20 => walk_at "ev"
        case hn20 => walk_at "nrm"
        case hd20 => exact congrArg D.int (by omega)
        intro _ _
        walk_at "seq"
        with_reducible refine' s_ifV (n := ((if d.getD 0 0 % 2 = 1 then cap (64 - lo) 9 else 64 - lo : Nat) : Int)) ?hx24 ?hO24 ?ht24 ?he24 ?hd24 ?hn24 ?_
        case hO24 => assumption
        case ht24 => walk_at "et"
        case hx24 => rfl
        case he24 => intro _; walk_at "ev"
        case hn24 => walk_at "nrm"
        case hd24 => exact (by by_cases z : d.getD 0 0 % 2 = 1; (rw [if_pos z, if_pos (decide_eq_true (by omega))]; unfold cap; split <;> split <;> omega); (rw [if_neg z, if_neg (by rw [decide_eq_true_eq]; omega)]))
        intro _ _
        have hp2 : (0 : Int) < ((if d.getD 0 0 % 2 = 1 then cap (64 - lo) 9 else 64 - lo : Nat) : Int) := by unfold cap; split <;> (try split) <;> omega
        walk_at "seq"
        with_reducible refine' s_asgV (n := ((psize d m lo : Nat) : Int)) ?hO21 ?he21 ?hd21 ?hn21 ?_
        case hO21 => assumption
        case he21 => walk_at "ev"
        case hn21 => walk_at "nrm"
        case hd21 => exact congrArg D.int (by unfold psize; push_cast; rfl)
        intro _ _
        generalize hsi : psize d m lo = si at *
        walk_at "seq"
        have hlx : xs.length = (pst d m).2.length := by rw [hxs.length, List.length_map]
        with_reducible refine' s_ins (j := 0) ?jO ?jl ?jj ?jz ?jn ?j0 ?je ?_
        case jO => assumption
        case jl => rfl
        case jj => rfl
        case jz => omega
        case jn =>
          refine ev_own hxs (f := V.int ((d.getD (4 + 3 * m) 0 : Int) % ((((pst d m).2.map pc).length : Int) + 1))) rfl fun G' e' i' => ?_
          walk_at "ev"
        case je => walk_at "ev"
        case j0 => 
          rw [List.length_map]
          have h1 := Int.emod_nonneg (d.getD (4 + 3 * m) 0 : Int) (show ((pst d m).2.length : Int) + 1 ≠ 0 by omega)
          have h2 := Int.emod_lt_of_pos (d.getD (4 + 3 * m) 0 : Int) (show (0 : Int) < ((pst d m).2.length : Int) + 1 by omega)
          exact ⟨h1, by omega⟩
        intro w G3 H3 e3 hO3 i3
        with_reducible refine' s_asgV (n := ((pst d (m + 1)).1 : Int)) ?hO22 ?he22 ?hd22 ?hn22 ?_
        case hO22 => assumption
        case he22 => walk_at "ev"
        case hn22 => walk_at "nrm"
        case hd22 => exact congrArg D.int (by rw [hst]; push_cast; rfl)
        intro _ _
        refine ⟨_, _, _, _, G3, _, rfl, e2.trans e3, ‹_›, ?_⟩
        have ei : ((d.getD (4 + 3 * m) 0 : Int) % ((((pst d m).2.map pc).length : Int) + 1)).toNat = d.getD (4 + 3 * m) 0 % ((pst d m).2.length + 1) := by
          rw [List.length_map, show (((pst d m).2.length : Int) + 1) = (((pst d m).2.length + 1 : Nat) : Int) by omega, ← Int.natCast_emod, Int.toNat_natCast]
        rw [ei, hst]
        have h3 := hxs.mono e3
        rw [List.map_append, List.map_append, List.map_take, List.map_drop]
        exact ((h3.take _).append (.one i3)).append (h3.drop _)
end

abbrev P_law_spots : List D → D → Prop := fun ds d => ∃ (ps : List (Nat × Nat)), ds = [.tup (ps.map pc)] ∧ (bitsN ps ≤ 64) ∧ d = .lst ((spots ps).map nI)
section
variable {P : Program} {w : World} {K : PySem.W.Frag} {mg : Str → Option Value} {base : Heap}
theorem ok_law_spots (B : Bi mg) (A : At K mg "_law_spots" s_law_spots) : Fn P w K mg base "_law_spots" 1 ["pieces"] (Pr K P_law_spots) := by
  refine Fn.pure A sc_law_spots (fun _ _ _ _ _ _ us hl => match us, hl with | [_], _ => rfl) (fun ds d h => by obtain ⟨_, e, _⟩ := h; subst e; rfl) fun f cdv A outer s H E hr => ⟨_,
    (pss_cons (ps_set (i := 1) sc_law_spots.nd rfl (.inl rfl) (pe_lst pa_nil))
      (pss_cons (ps_for PassesOwn.never rfl (piT (K := K) rfl (pv 0)) (pg_name (i := 2) sc_law_spots.nd rfl (.inl rfl)) (pss_one (ps_for PassesOwn.never rfl (pi_range1 (by rfl) B.m_range (pa_cons (pe_ix (ixT (K := K) rfl) (pv 2) pe_int (fun _ _ => rfl)) pa_nil)) (pg_name (i := 3) sc_law_spots.nd rfl (.inl rfl)) (pss_one (ps_expr (bmK (K := K) (id := "list.append") rfl (pe_bm PySem.F.plainAttrs_list PySem.F.slot_list_append PySem.F.type_list_append mt_append (pv 1) (pa_cons (pe_op op_add (pe_ix (ixT (K := K) rfl) (pv 2) pe_int (fun _ _ => rfl)) (pv 3)) pa_nil))))))))
      (pss_one (ps_ret (pv 1))))), ?_⟩
  try dsimp only [cxOf, Cx.nox, Cx.wish]
  intro G os ds d vs Q hO hv hp q
  obtain ⟨ps, rfl, hpre, rfl⟩ := hp
  obtain ⟨v1, _, rfl, i1, hv⟩ := hv.cons_inv
  have := hv.nil_inv; subst this
  rw [show start ["pieces", "spots", "piece", "k"] [v1] = [some (v1), none, none, none] from rfl]

  walk_at "seq"
  with_reducible refine' s_asgE ?hO28 ?_
  case hO28 => assumption
  intro l _ _
  dsimp only [List.set]
  walk_at "seq"
  with_reducible refine' s_forT (Pv := (fun G' m σ' H' => ∃ a b, σ' = [some v1, some (V.ref l), a, b] ∧ Own K G' H' ((l, .lst ((spots (ps.take m)).map vI)) :: os))) ?hO29 ?he29 ?h029 ?hl29 ?hs29 ?hd29
  case hO29 => assumption
  case he29 => first | walk_at "ea" | walk_at "ev"
  case h029 => intro G' H' e hO'; exact ⟨none, none, rfl, hO'⟩
  case hl29 => intro G' m σ' H' ⟨_, _, _, hO'⟩; exact hO'.ex
  case hs29 =>
    intro G' m x v σ' H' e hx hv ⟨a, b, hσ, hO'⟩
    subst hσ
    obtain ⟨lo, c, hp, rfl⟩ := pc_at hx
    dsimp only [gName, List.set]
    have hb := bitsN_take ps (m + 1)
    rw [take_snoc hp, bitsN_snoc] at hb
    have hlen : (spots (ps.take m)).length = bitsN (ps.take m) := spots_len _
    with_reducible refine' s_forR1 (Pv := (fun j σ2 H2 => ∃ b, σ2 = [some v1, some (V.ref l), some v, b] ∧ Own K G' H2 ((l, .lst ((spots (ps.take m) ++ List.range' lo j).map vI)) :: os))) ?hO30 ?he30 ?hn30 ?h030 ?hs30 ?hd30
    case hO30 => assumption
    case he30 => first | walk_at "ea" | walk_at "ev"
    case hn30 => exact ⟨by omega, by omega⟩
    case h030 => intro H2 hO2; refine ⟨b, rfl, ?_⟩; rw [List.range'_zero, List.append_nil]; exact hO2
    case hs30 =>
      intro j σ2 H2 hj ⟨b, hσ, hO2⟩
      subst hσ
      dsimp only [List.set]
      have hz : ((spots (ps.take m) ++ List.range' lo j).map vI).length < 100000 := by rw [List.length_map, List.length_append, List.length_range']; omega
      walk_at "app1"
      refine ⟨some (V.int (j : Int)), rfl, ?_⟩
      have e : (spots (ps.take m) ++ List.range' lo (j + 1)).map vI = (spots (ps.take m) ++ List.range' lo j).map vI ++ [V.int ((lo : Int) + (j : Int))] := by
        rw [List.range'_concat, ← List.append_assoc, List.map_append, Nat.one_mul]; rfl
      rw [e]
      assumption
    case hd30 =>
      intro σ2 H2 ⟨b, hσ, hO2⟩
      subst hσ
      refine ⟨_, _, rfl, ?_⟩
      rw [take_snoc hp, spots_snoc]
      exact hO2
  case hd29 =>
    intro G' σ' H' e ⟨_, _, hσ, hO'⟩
    subst hσ
    rw [List.length_map, List.take_length] at hO'
    exact s_outL (ms := []) q hO' e rfl rfl (isA_nI _)
end
def eqP (a : Int) : D := .tup [.int a, .int a]

abbrev P_law_equal : List D → D → Prop := fun ds d => ∃ (as : List Int), ds = [.lst (as.map eqP)] ∧ (True) ∧ d = .bl true
section
variable {P : Program} {w : World} {K : PySem.W.Frag} {mg : Str → Option Value} {base : Heap}
theorem ok_law_equal (B : Bi mg) (A : At K mg "_law_equal" s_law_equal) (C_law_number : Fn P w K mg base "_law_number" 1 ["x"] (Pr K P_law_number)) : Fn P w K mg base "_law_equal" 2 ["pairs"] (Pr K P_law_equal) := by
  refine Fn.pure A sc_law_equal (fun _ _ _ _ _ _ us hl => match us, hl with | [_], _ => rfl) (fun ds d h => by obtain ⟨_, e, _⟩ := h; subst e; rfl) fun f cdv A outer s H E hr => ⟨_,
    (pss_cons (ps_for PassesOwn.never rfl (piL (K := K) rfl (pv 0)) (pg_name (i := 1) sc_law_equal.nd rfl (.inl rfl)) (pss_one (ps_if (PW.pt (pw_or (pt_not (pt_val (pe_fn C_law_number (hr.mono (by decide)) (by rfl) (pa_cons (pe_ix (ixT (K := K) rfl) (pv 1) pe_int (fun _ _ => rfl)) pa_nil)))) (pw_or1 (pt_cmpR op_ne (pe_ix (ixT (K := K) rfl) (pv 1) pe_int (fun _ _ => rfl)) (pe_ix (ixT (K := K) rfl) (pv 1) pe_int (fun _ _ => rfl)) (nomark _))))) (pss_one (ps_ret pe_bl)) pss_nil)))
      (pss_one (ps_ret pe_bl))), ?_⟩
  try dsimp only [cxOf, Cx.nox, Cx.wish]
  intro G os ds d vs Q hO hv hp q
  obtain ⟨as, rfl, hpre, rfl⟩ := hp
  obtain ⟨v1, _, rfl, i1, hv⟩ := hv.cons_inv
  have := hv.nil_inv; subst this
  rw [show start ["pairs", "pair"] [v1] = [some (v1), none] from rfl]

  walk_at "seq"
  with_reducible refine' s_forL (Pv := (fun G' m σ' H' => ∃ a, σ' = [some v1, a] ∧ Own K G' H' os)) ?hO31 ?he31 ?h031 ?hl31 ?hs31 ?hd31
  case hO31 => assumption
  case he31 => first | walk_at "ea" | walk_at "ev"
  case h031 => intro G' H' e hO'; exact ⟨none, rfl, hO'⟩
  case hl31 => intro G' m σ' H' ⟨_, _, hO'⟩; exact hO'.ex
  case hs31 =>
    intro G' m x v σ' H' e hx hv ⟨a, hσ, hO'⟩
    subst hσ
    obtain ⟨z, rfl⟩ : ∃ z, x = eqP z := by
      rw [List.getElem?_map] at hx
      obtain ⟨z, _, h⟩ := Option.map_eq_some_iff.mp hx
      exact ⟨z, h.symm⟩
    dsimp only [gName, List.set, eqP]
    unfold eqP at hv
    walk_at "if1"
    · intro hb
      simp at hb
    · intro hb _ _
      walk_at "st"
      exact ⟨_, rfl, ‹_›⟩
  case hd31 =>
    intro G' σ' H' e ⟨_, hσ, hO'⟩
    subst hσ
    walk_at "st"
    rfl
end
theorem sum_hold (w : Nat) : ∀ sp : List Nat, ((List.range sp.length).map fun m => ((bit w (sp.getD m 0) : Int) * 2 ^ ((m : Int)).toNat)).sum = (hold w sp : Int)
  | [] => rfl
  | s :: r => by
    have ih := sum_hold w r
    rw [List.length_cons, List.range_succ_eq_map, List.map_cons, List.map_map, List.sum_cons]
    have e : ((fun m : Nat => ((bit w ((s :: r).getD m 0) : Int) * 2 ^ ((m : Int)).toNat)) ∘ Nat.succ) = fun m : Nat => 2 * ((bit w (r.getD m 0) : Int) * 2 ^ ((m : Int)).toNat) := by
      funext m
      show (bit w ((s :: r).getD (m + 1) 0) : Int) * 2 ^ (((m + 1 : Nat) : Int)).toNat = _
      rw [Int.toNat_natCast, Int.toNat_natCast, Int.pow_succ, List.getD_cons_succ, Int.mul_comm (2 ^ m) 2, ← Int.mul_assoc, ← Int.mul_assoc, Int.mul_comm 2 (bit w (r.getD m 0) : Int)]
    have e2 : ∀ (l : List Nat) (f : Nat → Int), (l.map fun m => 2 * f m).sum = 2 * (l.map f).sum := fun l f => by
      induction l with
      | nil => rfl
      | cons a r ih => rw [List.map_cons, List.map_cons, List.sum_cons, List.sum_cons, ih]; omega
    rw [e, e2, ih]
    show (bit w s : Int) * 2 ^ ((0 : Nat) : Int).toNat + 2 * (hold w r : Int) = ((bit w s + 2 * hold w r : Nat) : Int)
    rw [Int.toNat_natCast]
    omega
theorem lay_sum : ∀ (sp : List Nat) (v : Nat), ((List.range sp.length).map fun m => ((bit v m : Int) * 2 ^ ((sp.getD m 0 : Nat) : Int).toNat)).sum = (lay v sp : Int)
  | [], _ => rfl
  | s :: r, v => by
    have ih := lay_sum r (v / 2)
    rw [List.length_cons, List.range_succ_eq_map, List.map_cons, List.map_map, List.sum_cons]
    have e : ((fun m : Nat => ((bit v m : Int) * 2 ^ (((s :: r).getD m 0 : Nat) : Int).toNat)) ∘ Nat.succ) = fun m : Nat => ((bit (v / 2) m : Int) * 2 ^ ((r.getD m 0 : Nat) : Int).toNat) := by
      funext m
      show (bit v (m + 1) : Int) * 2 ^ (((s :: r).getD (m + 1) 0 : Nat) : Int).toNat = _
      have eb : bit v (m + 1) = bit (v / 2) m := by unfold bit; rw [Nat.pow_succ, Nat.mul_comm, ← Nat.div_div_eq_div_mul]
      rw [eb, List.getD_cons_succ]
    rw [e, ih]
    show (bit v 0 : Int) * 2 ^ ((s : Nat) : Int).toNat + (lay (v / 2) r : Int) = ((v % 2 * 2 ^ s + lay (v / 2) r : Nat) : Int)
    rw [Int.toNat_natCast]
    unfold bit
    rw [Nat.pow_zero, Nat.div_one]
    push_cast
    rfl
theorem own_sum (w : Nat) (sp : List Nat) : ((List.range sp.length).map fun m => ((bit w (sp.getD m 0) : Int) * 2 ^ ((sp.getD m 0 : Nat) : Int).toNat)).sum = (ownB w sp : Int) := by
  induction sp with
  | nil => rfl
  | cons s r ih =>
    rw [List.length_cons, List.range_succ_eq_map, List.map_cons, List.map_map, List.sum_cons]
    have e : ((fun m : Nat => ((bit w ((s :: r).getD m 0) : Int) * 2 ^ (((s :: r).getD m 0 : Nat) : Int).toNat)) ∘ Nat.succ) = fun m : Nat => ((bit w (r.getD m 0) : Int) * 2 ^ ((r.getD m 0 : Nat) : Int).toNat) := by
      funext m
      show (bit w ((s :: r).getD (m + 1) 0) : Int) * 2 ^ (((s :: r).getD (m + 1) 0 : Nat) : Int).toNat = _
      rw [List.getD_cons_succ]
    rw [e, ih]
    show (bit w s : Int) * 2 ^ ((s : Nat) : Int).toNat + (ownB w r : Int) = ((((s :: r).map fun s => bit w s * 2 ^ s).sum : Nat) : Int)
    rw [Int.toNat_natCast, List.map_cons, List.sum_cons]
    unfold ownB
    push_cast
    rfl
theorem bit_lt (w s : Nat) : bit w s < 2 := Nat.mod_lt _ (by decide)
theorem spots_lt {ps : List (Nat × Nat)} (h : ∀ p ∈ ps, p.1 + p.2 ≤ 64) : ∀ x ∈ spots ps, x < 64 := by
  induction ps with
  | nil => intro x hx; simp [spots] at hx
  | cons p r ih =>
    intro x hx
    rcases List.mem_append.mp (show x ∈ List.range' p.1 p.2 ++ spots r from hx) with q | q
    · have := List.mem_range'_1.mp q
      have := h p (List.mem_cons_self ..)
      omega
    · exact ih (fun p hp => h p (List.mem_cons_of_mem _ hp)) x q
theorem getD_lt {sp : List Nat} (h : ∀ x ∈ sp, x < 64) (m : Nat) : sp.getD m 0 < 64 := by
  rw [List.getD_eq_getElem?_getD]
  cases e : sp[m]? with
  | none => decide
  | some x => exact h x (List.mem_of_getElem? e)
theorem p_bit (w s : Nat) (h : s ≤ 100) : P_law_bit [.int (w : Int), .int (s : Int)] (.int (bit w s : Int)) := ⟨w, s, rfl, h, rfl⟩
theorem shl_bit {w s k : Nat} (h : k ≤ 100) : CPow (bit w s : Int) (k : Int) := by
  have := bit_lt w s
  exact ⟨by omega, by omega, by omega⟩

abbrev P_law_pieces_right : List D → D → Prop := fun ds d => ∃ (ps : List (Nat × Nat)) (w v : Nat), ds = [.tup (ps.map pc), .int w, .int v] ∧ ((∀ p ∈ ps, p.1 + p.2 ≤ 64) ∧ bitsN ps ≤ 64 ∧ (spots ps).Nodup ∧ v < 2 ^ bitsN ps) ∧ d = .bl true
section
variable {P : Program} {w : World} {K : PySem.W.Frag} {mg : Str → Option Value} {base : Heap}
theorem ok_law_pieces_right (B : Bi mg) (A : At K mg "_law_pieces_right" s_law_pieces_right) (C_law_spots : Fn P w K mg base "_law_spots" 1 ["pieces"] (Pr K P_law_spots)) (C_law_equal : Fn P w K mg base "_law_equal" 2 ["pairs"] (Pr K P_law_equal)) (C_gather : Fn P w K mg base "gather" 2 ["word", "pieces"] (Pr K P_gather)) (C_spread : Fn P w K mg base "spread" 2 ["value", "pieces"] (Pr K P_spread)) (C_law_bit : Fn P w K mg base "_law_bit" 1 ["number", "spot"] (Pr K P_law_bit)) : Fn P w K mg base "_law_pieces_right" 3 ["pieces", "word", "value"] (Pr K P_law_pieces_right) := by
  refine Fn.pure A sc_law_pieces_right (fun _ _ _ _ _ _ us hl => match us, hl with | [_, _, _], _ => rfl) (fun ds d h => by obtain ⟨_, _, _, e, _⟩ := h; subst e; rfl) fun f cdv A outer s H E hr => ⟨_,
    (pss_cons (ps_set (i := 3) sc_law_pieces_right.nd rfl (.inr rfl) (pe_fn C_law_spots (hr.mono (by decide)) (by rfl) (pa_cons (pv 0) pa_nil)))
      (pss_cons (ps_set (i := 4) sc_law_pieces_right.nd rfl (.inl rfl) (pe_callB (callSum (K := K) rfl rfl) (by rfl) B.m_sum (by decide +kernel) (pa_cons (pe_lc (own := [("k", 8)]) (tt := tYes) rfl sc_law_pieces_right.nd (pi_range1 (by rfl) B.m_range (pa_cons (pe_callB (callLen (K := K) rfl) (by rfl) B.m_len (by decide +kernel) (pa_cons (pv 3) pa_nil)) pa_nil)) (blkOk_by (own := [("k", 8)]) (N := ["pieces", "word", "value", "spots", "held", "laid", "own", "pairs", "k", "spot"]) (sc := defScope s_law_pieces_right) (by decide +kernel)) (fun _ _ _ _ _ => (pg_name (i := 8) sc_law_pieces_right.nd rfl (.inl rfl))) (fun _ _ _ _ _ => pts_nil) (fun _ _ _ _ _ => (pe_op op_shl (pe_fn C_law_bit (hr.mono (by decide)) (by rfl) (pa_cons (pv 1) (pa_cons (pe_ix (ixL (K := K) rfl) (pv 3) (pv 8) (fun _ _ => rfl)) pa_nil))) (pv 8)))) pa_nil)))
      (pss_cons (ps_set (i := 5) sc_law_pieces_right.nd rfl (.inl rfl) (pe_callB (callSum (K := K) rfl rfl) (by rfl) B.m_sum (by decide +kernel) (pa_cons (pe_lc (own := [("k", 8)]) (tt := tYes) rfl sc_law_pieces_right.nd (pi_range1 (by rfl) B.m_range (pa_cons (pe_callB (callLen (K := K) rfl) (by rfl) B.m_len (by decide +kernel) (pa_cons (pv 3) pa_nil)) pa_nil)) (blkOk_by (own := [("k", 8)]) (N := ["pieces", "word", "value", "spots", "held", "laid", "own", "pairs", "k", "spot"]) (sc := defScope s_law_pieces_right) (by decide +kernel)) (fun _ _ _ _ _ => (pg_name (i := 8) sc_law_pieces_right.nd rfl (.inl rfl))) (fun _ _ _ _ _ => pts_nil) (fun _ _ _ _ _ => (pe_op op_shl (pe_fn C_law_bit (hr.mono (by decide)) (by rfl) (pa_cons (pv 2) (pa_cons (pv 8) pa_nil))) (pe_ix (ixL (K := K) rfl) (pv 3) (pv 8) (fun _ _ => rfl))))) pa_nil)))
      (pss_cons (ps_set (i := 6) sc_law_pieces_right.nd rfl (.inl rfl) (pe_callB (callSum (K := K) rfl rfl) (by rfl) B.m_sum (by decide +kernel) (pa_cons (pe_lc (own := [("spot", 9)]) (tt := tYes) rfl sc_law_pieces_right.nd (piL (K := K) rfl (pv 3)) (blkOk_by (own := [("spot", 9)]) (N := ["pieces", "word", "value", "spots", "held", "laid", "own", "pairs", "k", "spot"]) (sc := defScope s_law_pieces_right) (by decide +kernel)) (fun _ _ _ _ _ => (pg_name (i := 9) sc_law_pieces_right.nd rfl (.inl rfl))) (fun _ _ _ _ _ => pts_nil) (fun _ _ _ _ _ => (pe_op op_shl (pe_fn C_law_bit (hr.mono (by decide)) (by rfl) (pa_cons (pv 1) (pa_cons (pv 9) pa_nil))) (pv 9)))) pa_nil)))
      (pss_cons (ps_set (i := 7) sc_law_pieces_right.nd rfl (.inl rfl) (pe_lst (pa_cons (pe_tup (pa_cons (pe_fn C_gather (hr.mono (by decide)) (by rfl) (pa_cons (pv 1) (pa_cons (pv 0) pa_nil))) (pa_cons (pv 4) pa_nil))) (pa_cons (pe_tup (pa_cons (pe_fn C_spread (hr.mono (by decide)) (by rfl) (pa_cons (pv 2) (pa_cons (pv 0) pa_nil))) (pa_cons (pv 5) pa_nil))) pa_nil))))
      (pss_cons (ps_expr (bmK (K := K) (id := "list.append") rfl (pe_bm PySem.F.plainAttrs_list PySem.F.slot_list_append PySem.F.type_list_append mt_append (pv 7) (pa_cons (pe_tup (pa_cons (pe_fn C_gather (hr.mono (by decide)) (by rfl) (pa_cons (pv 5) (pa_cons (pv 0) pa_nil))) (pa_cons (pv 2) pa_nil))) pa_nil))))
      (pss_cons (ps_expr (bmK (K := K) (id := "list.append") rfl (pe_bm PySem.F.plainAttrs_list PySem.F.slot_list_append PySem.F.type_list_append mt_append (pv 7) (pa_cons (pe_tup (pa_cons (pe_fn C_spread (hr.mono (by decide)) (by rfl) (pa_cons (pv 4) (pa_cons (pv 0) pa_nil))) (pa_cons (pv 6) pa_nil))) pa_nil))))
      (pss_cons (ps_expr (bmK (K := K) (id := "list.append") rfl (pe_bm PySem.F.plainAttrs_list PySem.F.slot_list_append PySem.F.type_list_append mt_append (pv 7) (pa_cons (pe_tup (pa_cons (pe_fn C_gather (hr.mono (by decide)) (by rfl) (pa_cons (pe_op op_add (pe_op op_sub (pv 1) (pv 6)) (pv 5)) (pa_cons (pv 0) pa_nil))) (pa_cons (pv 2) pa_nil))) pa_nil))))
      (pss_one (ps_ret (pe_fn C_law_equal (hr.mono (by decide)) (by rfl) (pa_cons (pv 7) pa_nil)))))))))))), ?_⟩
  try dsimp only [cxOf, Cx.nox, Cx.wish]
  intro G os ds d vs Q hO hv hp q
  obtain ⟨ps, w, v, rfl, hpre, rfl⟩ := hp
  obtain ⟨v1, _, rfl, i1, hv⟩ := hv.cons_inv
  obtain ⟨v2, _, rfl, i2, hv⟩ := hv.cons_inv
  obtain ⟨v3, _, rfl, i3, hv⟩ := hv.cons_inv
  have := hv.nil_inv; subst this
  have := i2.int_inv; subst this
  have := i3.int_inv; subst this
  rw [show start ["pieces", "word", "value", "spots", "held", "laid", "own", "pairs", "k", "spot"] [v1, V.int w, V.int v] = [some (v1), some (V.int w), some (V.int v), none, none, none, none, none, none, none] from rfl]

  obtain ⟨h1, h2, h3, h4⟩ := hpre
  walk_at "seq"
  with_reducible refine' s_asg ?hO32 ?he32 ?hn32 ?_
  case hO32 => assumption
  case he32 => walk_at "ev"
  case hn32 => intro _; rfl
  intro vs G1 H1 e1 hO1 is1
  dsimp only [List.set]
  obtain ⟨sp, hsp⟩ : ∃ sp, sp = spots ps := ⟨_, rfl⟩
  have hlen : sp.length = bitsN ps := by rw [hsp, spots_len]
  have h64 : ∀ x ∈ sp, x < 64 := by rw [hsp]; exact spots_lt h1
  rw [← hsp] at is1 h3
  have hlm : ((sp.map nI).length : Int) = (sp.length : Int) := by rw [List.length_map]
  -- held
  walk_at "seq"
  with_reducible refine' s_asgV (n := (hold w sp : Int)) ?aO ?ae ?ad ?an ?_
  case aO => assumption
  case an => walk_at "nrm"
  case ae =>
    with_reducible refine' ev_cb ?ahr ?aha
    case aha =>
      with_reducible refine' ea_cons ?ah1 ?ah2
      case ah2 => walk_at "ea"
      case ah1 =>
        with_reducible refine' ev_new ?aen
        case aen =>
          with_reducible refine' en_lcR1 (f := fun m => D.int ((bit w (sp.getD m 0) : Int) * 2 ^ ((m : Int)).toNat)) ?ab1 ?ab2 ?ab3 ?ab4
          case ab1 => walk_at "ea"
          case ab2 => omega
          case ab3 => intro _; rfl
          case ab4 =>
            intro m p hm
            have hx : atI (sp.map nI) (m : Int) = some (.int (sp.getD m 0 : Int)) := at_nI (by omega) rfl
            have hc := p_bit w (sp.getD m 0) (by have := getD_lt h64 m; omega)
            have hs : CPow (bit w (sp.getD m 0) : Int) (m : Int) := shl_bit (by omega)
            dsimp only [wipe, List.map, List.set]
            walk_at "ev"
    case ahr => exact rc_sumR
  case ad =>
    refine congrArg D.int ?_
    rw [hlm, Int.toNat_natCast]
    exact sum_hold w sp
  intro _ _
  -- laid
  walk_at "seq"
  with_reducible refine' s_asgV (n := (lay v sp : Int)) ?bO ?be ?bd ?bn ?_
  case bO => assumption
  case bn => walk_at "nrm"
  case be =>
    with_reducible refine' ev_cb ?bhr ?bha
    case bha =>
      with_reducible refine' ea_cons ?bh1 ?bh2
      case bh2 => walk_at "ea"
      case bh1 =>
        with_reducible refine' ev_new ?ben
        case ben =>
          with_reducible refine' en_lcR1 (f := fun m => D.int ((bit v m : Int) * 2 ^ ((sp.getD m 0 : Nat) : Int).toNat)) ?bb1 ?bb2 ?bb3 ?bb4
          case bb1 => walk_at "ea"
          case bb2 => omega
          case bb3 => intro _; rfl
          case bb4 =>
            intro m p hm
            have hx : atI (sp.map nI) (m : Int) = some (.int (sp.getD m 0 : Int)) := at_nI (by omega) rfl
            have hc := p_bit v m (by omega)
            have hs : CPow (bit v m : Int) ((sp.getD m 0 : Nat) : Int) := shl_bit (by have := getD_lt h64 m; omega)
            dsimp only [wipe, List.map, List.set]
            walk_at "ev"
    case bhr => exact rc_sumR
  case bd =>
    refine congrArg D.int ?_
    rw [hlm, Int.toNat_natCast]
    exact lay_sum sp v
  intro _ _
  -- own
  walk_at "seq"
  with_reducible refine' s_asgV (n := (ownB w sp : Int)) ?cO ?ce ?cd ?cn ?_
  case cO => assumption
  case cn => walk_at "nrm"
  case ce =>
    with_reducible refine' ev_cb ?chr ?cha
    case cha =>
      with_reducible refine' ea_cons ?ch1 ?ch2
      case ch2 => walk_at "ea"
      case ch1 =>
        with_reducible refine' ev_new ?cen
        case cen =>
          with_reducible refine' en_lcL (f := fun m => D.int ((bit w (sp.getD m 0) : Int) * 2 ^ ((sp.getD m 0 : Nat) : Int).toNat)) ?cb1 ?cb2 ?cb3
          case cb1 => walk_at "ev"
          case cb2 => omega
          case cb3 =>
            intro m x u G' H' R e e' hx hu hR
            have hm : m < sp.length := by
              have := (List.getElem?_eq_some_iff.mp hx).1
              rw [List.length_map] at this
              exact this
            have ex : x = .int (sp.getD m 0 : Int) := by
              have := at_nI hm (rfl : (m : Int) = (m : Int))
              have h5 := atI_nat hx
              rw [this] at h5
              exact (Option.some.inj h5).symm
            subst ex
            have := hu.int_inv
            subst this
            have hc := p_bit w (sp.getD m 0) (by have := getD_lt h64 m; omega)
            have hs : CPow (bit w (sp.getD m 0) : Int) ((sp.getD m 0 : Nat) : Int) := shl_bit (by have := getD_lt h64 m; omega)
            dsimp only [wipe, List.map, List.set, gName]
            refine hR _ rfl fun p => ?_
            walk_at "ev"
    case chr => exact rc_sumR
  case cd =>
    refine congrArg D.int ?_
    rw [List.length_map]
    exact own_sum w sp
  intro _ _
  -- the pairs
  obtain ⟨q1, q2⟩ := swap (w := w) (v := v) (r := sp) h3 (by rw [hlen]; exact h4)
  have pg : ∀ w : Nat, P_gather [.int (w : Int), .tup (ps.map pc)] (.int (hold w sp : Int)) := fun w => ⟨w, ps, rfl, ⟨h1, h2⟩, by rw [gat_hold, ← hsp]⟩
  have psd : ∀ v : Nat, P_spread [.int (v : Int), .tup (ps.map pc)] (.int (lay v sp : Int)) := fun v => ⟨v, ps, rfl, ⟨h1, h2, by rw [← hsp]; exact h3⟩, by rw [hsp]⟩
  have c1 := pg w
  have c2 := psd v
  have c3 := pg (lay v sp)
  have c4 := psd (hold w sp)
  have c5 : P_gather [.int ((w : Int) - (ownB w sp : Int) + (lay v sp : Int)), .tup (ps.map pc)] (.int (v : Int)) := by
    have h := pg (w - ownB w sp + lay v sp)
    rw [q2] at h
    have e : ((w - ownB w sp + lay v sp : Nat) : Int) = (w : Int) - (ownB w sp : Int) + (lay v sp : Int) := by omega
    rw [e] at h
    exact h
  rw [hold_lay h3 (by rw [hlen]; exact h4)] at c3
  rw [lay_hold] at c4
  walk_at "seq"
  with_reducible refine' s_asgO ?hO33 ?he33 ?_
  case hO33 => assumption
  case he33 => walk_at "en"
  intro l xs G2 H2 e2 hO2 x2
  dsimp only [List.set]
  have z1 : xs.length < 100 := by rw [x2.length]; exact Nat.le_of_ble_eq_true rfl
  walk_at "seq"
  with_reducible refine' s_app (j := 0) ?hO34 ?hl34 ?hj34 ?hz34 ?he34 ?_
  case hO34 => assumption
  case hl34 => rfl
  case hj34 => rfl
  case he34 => walk_at "ev"
  case hz34 => walk_at "sz"
  intro w1 G3 H3 e3 hO3 i3
  dsimp only [List.set] at *
  have x3 := (x2.mono e3).snoc i3
  walk_at "seq"
  with_reducible refine' s_app (j := 0) ?hO35 ?hl35 ?hj35 ?hz35 ?he35 ?_
  case hO35 => assumption
  case hl35 => rfl
  case hj35 => rfl
  case he35 => walk_at "ev"
  case hz35 => walk_at "sz"
  intro w2 G4 H4 e4 hO4 i4
  dsimp only [List.set] at *
  have x4 := (x3.mono e4).snoc i4
  walk_at "seq"
  with_reducible refine' s_app (j := 0) ?hO36 ?hl36 ?hj36 ?hz36 ?he36 ?_
  case hO36 => assumption
  case hl36 => rfl
  case hj36 => rfl
  case he36 => walk_at "ev"
  case hz36 => walk_at "sz"
  intro w3 G5 H5 e5 hO5 i5
  dsimp only [List.set] at *
  have x5 := (x4.mono e5).snoc i5
  have e6 := hO5.freezeEx
  have hO6 := hO5.freeze
  have i6 := Is.lst (K := K) (Evl.sq_of upd_same) (x5.mono e6)
  have ceq : P_law_equal [.lst ([.tup [.int (hold w sp : Int), .int (hold w sp : Int)], .tup [.int (lay v sp : Int), .int (lay v sp : Int)]] ++ [.tup [.int (v : Int), .int (v : Int)]] ++ [.tup [.int (ownB w sp : Int), .int (ownB w sp : Int)]] ++ [.tup [.int (v : Int), .int (v : Int)]])] (.bl true) :=
    ⟨[(hold w sp : Int), (lay v sp : Int), (v : Int), (ownB w sp : Int), (v : Int)], rfl, trivial, rfl⟩
  walk_at "st"
  rfl
end
theorem p_byte (w k : Nat) (h : k ≤ 8) : P_law_byte [.int (w : Int), .int (k : Int)] (.int (byteAt w k : Int)) := ⟨w, k, rfl, h, rfl⟩
theorem p_byteat (w k : Nat) (h : k ≤ 8) : P_byte_at [.int (w : Int), .int (k : Int)] (.int (byteAt w k : Int)) := ⟨w, k, rfl, h, rfl⟩
theorem byteAt_lt (w k : Nat) : byteAt w k < 256 := Nat.mod_lt _ (by decide)
theorem dueOf_succ (o n c m : Nat) : dueOf o n c (m + 1) = dueOf o n c m + byteAt (if bit c m = 1 then n else o) m * 2 ^ (8 * m) := by
  show bytesOf _ m + byteAt (if bit c m = 1 then n else o) m % 256 * 2 ^ (8 * m) = _
  rw [Nat.mod_eq_of_lt (byteAt_lt _ _)]
  rfl

abbrev P_law_bytes_right : List D → D → Prop := fun ds d => ∃ (o n c : Nat), ds = [.int o, .int n, .int c] ∧ (o < 2 ^ 64 ∧ n < 2 ^ 64 ∧ c < 256) ∧ d = .bl true
section
variable {P : Program} {w : World} {K : PySem.W.Frag} {mg : Str → Option Value} {base : Heap}
theorem ok_law_bytes_right (B : Bi mg) (A : At K mg "_law_bytes_right" s_law_bytes_right) (C_law_equal : Fn P w K mg base "_law_equal" 2 ["pairs"] (Pr K P_law_equal)) (C_byte_at : Fn P w K mg base "byte_at" 1 ["value", "index"] (Pr K P_byte_at)) (C_law_byte : Fn P w K mg base "_law_byte" 1 ["number", "k"] (Pr K P_law_byte)) (C_law_bit : Fn P w K mg base "_law_bit" 1 ["number", "spot"] (Pr K P_law_bit)) (C_merge : Fn P w K mg base "merge" 1 ["old", "new", "cover"] (Pr K P_merge)) (C_full_cover : Fn P w K mg base "full_cover" 1 ["width"] (Pr K P_full_cover)) : Fn P w K mg base "_law_bytes_right" 3 ["old", "new", "cover"] (Pr K P_law_bytes_right) := by
  refine Fn.pure A sc_law_bytes_right (fun _ _ _ _ _ _ us hl => match us, hl with | [_, _, _], _ => rfl) (fun ds d h => by obtain ⟨_, _, _, e, _⟩ := h; subst e; rfl) fun f cdv A outer s H E hr => ⟨_,
    (pss_cons (ps_setLc (i := 3) (own := [("k", 5)]) (tt := tYes) rfl sc_law_bytes_right.nd rfl rfl (sw_true rfl rfl rfl (by decide +kernel)) (pi_range1 (by rfl) B.m_range (pa_cons pe_int pa_nil)) (blkOk_by (own := [("k", 5)]) (N := ["old", "new", "cover", "pairs", "due", "k", "part"]) (sc := defScope s_law_bytes_right) (by decide +kernel)) (fun _ _ _ _ _ => (pg_name (i := 5) sc_law_bytes_right.nd rfl (.inl rfl))) (fun _ _ _ _ _ => pts_nil) (fun _ _ _ _ _ => (pe_tup (pa_cons (pe_fn C_byte_at (hr.mono (by decide)) (by rfl) (pa_cons (pv 0) (pa_cons (pv 5) pa_nil))) (pa_cons (pe_fn C_law_byte (hr.mono (by decide)) (by rfl) (pa_cons (pv 0) (pa_cons (pv 5) pa_nil))) pa_nil)))))
      (pss_cons (ps_set (i := 4) sc_law_bytes_right.nd rfl (.inl rfl) pe_int)
      (pss_cons (ps_for PassesOwn.never rfl (pi_range1 (by rfl) B.m_range (pa_cons pe_int pa_nil)) (pg_name (i := 5) sc_law_bytes_right.nd rfl (.inl rfl)) (pss_cons (ps_set (i := 6) sc_law_bytes_right.nd rfl (.inl rfl) (pv 0)) (pss_cons (ps_if (pt_cmpR op_eq (pe_fn C_law_bit (hr.mono (by decide)) (by rfl) (pa_cons (pv 2) (pa_cons (pv 5) pa_nil))) pe_int (nomark _)) (pss_one (ps_set (i := 6) sc_law_bytes_right.nd rfl (.inl rfl) (pv 1))) pss_nil) (pss_one (ps_set (i := 4) sc_law_bytes_right.nd rfl (.inl rfl) (pe_op op_add (pv 4) (pe_op op_shl (pe_fn C_law_byte (hr.mono (by decide)) (by rfl) (pa_cons (pv 6) (pa_cons (pv 5) pa_nil))) (pe_op op_mul pe_int (pv 5)))))))))
      (pss_cons (ps_expr (bmK (K := K) (id := "list.append") rfl (pe_bm PySem.F.plainAttrs_list PySem.F.slot_list_append PySem.F.type_list_append mt_append (pv 3) (pa_cons (pe_tup (pa_cons (pe_fn C_merge (hr.mono (by decide)) (by rfl) (pa_cons (pv 0) (pa_cons (pv 1) (pa_cons (pv 2) pa_nil)))) (pa_cons (pv 4) pa_nil))) pa_nil))))
      (pss_cons (ps_for PassesOwn.never rfl (pi_range2 (by rfl) B.m_range (pa_cons pe_int (pa_cons pe_int pa_nil))) (pg_name (i := 5) sc_law_bytes_right.nd rfl (.inl rfl)) (pss_one (ps_expr (bmK (K := K) (id := "list.append") rfl (pe_bm PySem.F.plainAttrs_list PySem.F.slot_list_append PySem.F.type_list_append mt_append (pv 3) (pa_cons (pe_tup (pa_cons (pe_fn C_full_cover (hr.mono (by decide)) (by rfl) (pa_cons (pe_op op_mul pe_int (pv 5)) pa_nil)) (pa_cons (pe_op op_sub (pe_op op_shl pe_int (pv 5)) pe_int) pa_nil))) pa_nil))))))
      (pss_one (ps_ret (pe_fn C_law_equal (hr.mono (by decide)) (by rfl) (pa_cons (pv 3) pa_nil))))))))), ?_⟩
  try dsimp only [cxOf, Cx.nox, Cx.wish]
  intro G os ds d vs Q hO hv hp q
  obtain ⟨o, n, c, rfl, hpre, rfl⟩ := hp
  obtain ⟨v1, _, rfl, i1, hv⟩ := hv.cons_inv
  obtain ⟨v2, _, rfl, i2, hv⟩ := hv.cons_inv
  obtain ⟨v3, _, rfl, i3, hv⟩ := hv.cons_inv
  have := hv.nil_inv; subst this
  have := i1.int_inv; subst this
  have := i2.int_inv; subst this
  have := i3.int_inv; subst this
  rw [show start ["old", "new", "cover", "pairs", "due", "k", "part"] [V.int o, V.int n, V.int c] = [some (V.int o), some (V.int n), some (V.int c), none, none, none, none] from rfl]

  walk_at "seq"
  with_reducible refine' s_asgO ?aO ?ae ?_
  case aO => assumption
  case ae =>
    with_reducible refine' en_lcR1 (f := fun m => eqP (byteAt o m : Int)) ?ab1 ?ab2 ?ab3 ?ab4
    case ab1 => walk_at "ea"
    case ab2 => exact ⟨by decide, by decide⟩
    case ab3 => intro _; rfl
    case ab4 =>
      intro m p hm
      have c1 := p_byteat o m (by omega)
      have c2 := p_byte o m (by omega)
      dsimp only [wipe, List.map, List.set]
      unfold eqP
      walk_at "ev"
  intro l xs G1 H1 e1 hO1 x1
  dsimp only [List.set]
  have x1' : IsA K G1 xs (([0, 1, 2, 3, 4, 5, 6, 7].map fun m => (byteAt o m : Int)).map eqP) := x1
  walk_at "st"
  walk_at "seq"
  with_reducible refine' s_forR1 (Pv := (fun m σ' H' => ∃ a b, σ' = [some (V.int (o : Int)), some (V.int (n : Int)), some (V.int (c : Int)), some (V.ref l), some (V.int (dueOf o n c m : Int)), a, b] ∧ Own K G1 H' ((l, .lst xs) :: os))) ?hO41 ?he41 ?hn41 ?h041 ?hs41 ?hd41
  case hO41 => assumption
  case he41 => first | walk_at "ea" | walk_at "ev"
  case hn41 => exact ⟨by decide, by decide⟩
  case h041 => intro H' hO'; exact ⟨none, none, rfl, hO'⟩
  case hs41 =>
    intro m σ' H' hm ⟨a, b, hσ, hO'⟩
    subst hσ
    dsimp only [List.set]
    have cb := p_bit c m (by omega)
    have b2 := bit_lt c m
    walk_at "st"
    walk_at "seq"
    with_reducible refine' s_ifV (n := (((if bit c m = 1 then n else o : Nat)) : Int)) ?hx38 ?hO38 ?ht38 ?he38 ?hd38 ?hn38 ?_
    case hO38 => assumption
    case ht38 => walk_at "et"
    case hx38 => rfl
    case he38 => intro _; walk_at "ev"
    case hn38 => walk_at "nrm"
    case hd38 => exact (by by_cases z : bit c m = 1; (rw [if_pos z, if_pos (decide_eq_true (by omega))]); (rw [if_neg z, if_neg (by rw [decide_eq_true_eq]; omega)]))
    intro _ _
    have c2 := p_byte (if bit c m = 1 then n else o) m (by omega)
    have b3 := byteAt_lt (if bit c m = 1 then n else o) m
    have e8 : (8 : Int) * (m : Int) = ((8 * m : Nat) : Int) := by push_cast; rfl
    have hs : CPow (byteAt (if bit c m = 1 then n else o) m : Int) (8 * (m : Int)) := ⟨by omega, by omega, by omega⟩
    with_reducible refine' s_asgV (n := (dueOf o n c (m + 1) : Int)) ?hO37 ?he37 ?hd37 ?hn37 ?_
    case hO37 => assumption
    case he37 => walk_at "ev"
    case hn37 => walk_at "nrm"
    case hd37 => exact congrArg D.int (by rw [e8, shl_nat, dueOf_succ]; push_cast; rfl)
    intro _ _
    exact ⟨_, _, rfl, ‹_›⟩
  case hd41 =>
    intro σ' H' ⟨a, b, hσ, hO'⟩
    subst hσ
    have e8 : ((8 : Int)).toNat = 8 := rfl
    rw [e8]
    have cm : P_merge [.int (o : Int), .int (n : Int), .int (c : Int)] (.int (dueOf o n c 8 : Int)) := ⟨o, n, c, rfl, hpre, rfl⟩
    have z1 : xs.length < 100 := by rw [x1'.length]; exact Nat.le_of_ble_eq_true rfl
    walk_at "seq"
    with_reducible refine' s_app (j := 0) ?hO39 ?hl39 ?hj39 ?hz39 ?he39 ?_
    case hO39 => assumption
    case hl39 => rfl
    case hj39 => rfl
    case he39 => walk_at "ev"
    case hz39 => walk_at "sz"
    intro w1 G2 H2 e2 hO2 i2
    dsimp only [List.set] at *
    have x2 := (x1'.mono e2).snoc i2
    walk_at "seq"
    with_reducible refine' s_forR2 (Pv := (fun m σ' H' => ∃ k G3 ys, σ' = [some (V.int (o : Int)), some (V.int (n : Int)), some (V.int (c : Int)), some (V.ref l), some (V.int (dueOf o n c 8 : Int)), k, b] ∧ Evl.Ex G2 G3 ∧ Own K G3 H' ((l, .lst ys) :: os) ∧ IsA K G3 ys ((([0, 1, 2, 3, 4, 5, 6, 7].map fun m => (byteAt o m : Int)) ++ [(dueOf o n c 8 : Int)] ++ (List.range m).map fun j => ((2 ^ (j + 1) - 1 : Nat) : Int)).map eqP))) ?hO42 ?he42 ?hn42 ?h042 ?hs42 ?hd42
    case hO42 => assumption
    case he42 => first | walk_at "ea" | walk_at "ev"
    case hn42 => exact ⟨by decide, by decide, by decide, by decide⟩
    case h042 =>
      intro H' hO'
      refine ⟨a, G2, _, rfl, Evl.Ex.refl _, hO', ?_⟩
      rw [List.range_zero, List.map_nil, List.append_nil, List.map_append]
      exact x2
    case hs42 =>
      intro m σ' H' hm ⟨k, G3, ys, hσ, e3, hO3, y3⟩
      subst hσ
      dsimp only [List.set]
      have hz : ys.length < 100 := by
        rw [y3.length, List.length_map, List.length_append, List.length_append, List.length_map, List.length_map, List.length_range]
        simp only [List.length_cons, List.length_nil]
        omega
      have hp := pw_le (w := m + 1) (by omega)
      have hp1 := Nat.two_pow_pos (m + 1)
      have em : (1 : Int) + (m : Int) = ((m + 1 : Nat) : Int) := by omega
      have cf : P_full_cover [.int (8 * (1 + (m : Int)))] (.int ((2 ^ (m + 1) - 1 : Nat) : Int)) := ⟨m + 1, by rw [em], ⟨by omega, by omega⟩, rfl⟩
      have ee : (1 : Int) * 2 ^ ((1 : Int) + (m : Int)).toNat - 1 = ((2 ^ (m + 1) - 1 : Nat) : Int) := by rw [em, pw]; omega
      with_reducible refine' s_app (j := 0) ?hO40 ?hl40 ?hj40 ?hz40 ?he40 ?_
      case hO40 => assumption
      case hl40 => rfl
      case hj40 => rfl
      case he40 => walk_at "ev"
      case hz40 => walk_at "sz"
      intro w2 G4 H4 e4 hO4 i4
      dsimp only [List.set] at *
      rw [ee] at i4
      refine ⟨_, G4, _, rfl, e3.trans e4, hO4, ?_⟩
      have el : ((List.range (m + 1)).map fun j => ((2 ^ (j + 1) - 1 : Nat) : Int)) = ((List.range m).map fun j => ((2 ^ (j + 1) - 1 : Nat) : Int)) ++ [((2 ^ (m + 1) - 1 : Nat) : Int)] := by
        rw [List.range_succ, List.map_append]; rfl
      rw [el, ← List.append_assoc, List.map_append]
      exact (y3.mono e4).snoc i4
    case hd42 =>
      intro σ' H' ⟨k, G3, ys, hσ, e3, hO3, y3⟩
      subst hσ
      have e6 := hO3.freezeEx
      have hO6 := hO3.freeze
      have i6 := Is.lst (K := K) (Evl.sq_of upd_same) (y3.mono e6)
      have ceq : P_law_equal [.lst (((([0, 1, 2, 3, 4, 5, 6, 7].map fun m => (byteAt o m : Int)) ++ [(dueOf o n c 8 : Int)] ++ (List.range (5 - 1 : Int).toNat).map fun j => ((2 ^ (j + 1) - 1 : Nat) : Int)).map eqP))] (.bl true) := ⟨_, rfl, trivial, rfl⟩
      walk_at "st"
      rfl
end

abbrev P_law_numbers_right : List D → D → Prop := fun ds d => ∃ (n : Int) (w v : Nat), ds = [.int n, .int w, .int v] ∧ (1 ≤ w ∧ w ≤ 64 ∧ v < 2 ^ w ∧ n.natAbs < 2 ^ 80) ∧ d = .bl true
section
variable {P : Program} {w : World} {K : PySem.W.Frag} {mg : Str → Option Value} {base : Heap}
theorem ok_law_numbers_right (B : Bi mg) (A : At K mg "_law_numbers_right" s_law_numbers_right) (C_law_equal : Fn P w K mg base "_law_equal" 2 ["pairs"] (Pr K P_law_equal)) (C_wrap : Fn P w K mg base "wrap" 1 ["number", "width"] (Pr K P_wrap)) (C_signed : Fn P w K mg base "signed" 1 ["value", "width"] (Pr K P_signed)) : Fn P w K mg base "_law_numbers_right" 3 ["number", "width", "value"] (Pr K P_law_numbers_right) := by
  refine Fn.pure A sc_law_numbers_right (fun _ _ _ _ _ _ us hl => match us, hl with | [_, _, _], _ => rfl) (fun ds d h => by obtain ⟨_, _, _, e, _⟩ := h; subst e; rfl) fun f cdv A outer s H E hr => ⟨_,
    (pss_cons (ps_set (i := 3) sc_law_numbers_right.nd rfl (.inl rfl) (pe_op op_shl pe_int (pv 1)))
      (pss_cons (ps_set (i := 4) sc_law_numbers_right.nd rfl (.inl rfl) (pe_lst (pa_cons (pe_tup (pa_cons (pe_fn C_wrap (hr.mono (by decide)) (by rfl) (pa_cons (pv 0) (pa_cons (pv 1) pa_nil))) (pa_cons (pe_op op_sub (pv 0) (pe_op op_mulW (pv 3) (pe_op op_fdivW (pv 0) (pv 3)))) pa_nil))) pa_nil)))
      (pss_cons (ps_for PassesOwn.never rfl (piL (K := K) rfl (pe_lst (pa_cons pe_int (pa_cons (pe_op op_sub (pe_op op_fdivW (pv 3) pe_int) pe_int) (pa_cons (pe_op op_fdivW (pv 3) pe_int) (pa_cons (pe_op op_sub (pv 3) pe_int) (pa_cons (pv 2) pa_nil))))))) (pg_name (i := 5) sc_law_numbers_right.nd rfl (.inl rfl)) (pss_cons (ps_set (i := 6) sc_law_numbers_right.nd rfl (.inl rfl) (pv 5)) (pss_cons (ps_if (pt_cmpR op_ge (pe_op op_mul pe_int (pv 5)) (pv 3) (nomark _)) (pss_one (ps_set (i := 6) sc_law_numbers_right.nd rfl (.inl rfl) (pe_op op_sub (pv 5) (pv 3)))) pss_nil) (pss_one (ps_expr (bmK (K := K) (id := "list.append") rfl (pe_bm PySem.F.plainAttrs_list PySem.F.slot_list_append PySem.F.type_list_append mt_append (pv 4) (pa_cons (pe_tup (pa_cons (pe_fn C_signed (hr.mono (by decide)) (by rfl) (pa_cons (pv 5) (pa_cons (pv 1) pa_nil))) (pa_cons (pv 6) pa_nil))) pa_nil))))))))
      (pss_one (ps_ret (pe_fn C_law_equal (hr.mono (by decide)) (by rfl) (pa_cons (pv 4) pa_nil))))))), ?_⟩
  try dsimp only [cxOf, Cx.nox, Cx.wish]
  intro G os ds d vs Q hO hv hp q
  obtain ⟨n, w, v, rfl, hpre, rfl⟩ := hp
  obtain ⟨v1, _, rfl, i1, hv⟩ := hv.cons_inv
  obtain ⟨v2, _, rfl, i2, hv⟩ := hv.cons_inv
  obtain ⟨v3, _, rfl, i3, hv⟩ := hv.cons_inv
  have := hv.nil_inv; subst this
  have := i1.int_inv; subst this
  have := i2.int_inv; subst this
  have := i3.int_inv; subst this
  rw [show start ["number", "width", "value", "top", "pairs", "x", "due"] [V.int n, V.int w, V.int v] = [some (V.int n), some (V.int w), some (V.int v), none, none, none, none] from rfl]

  obtain ⟨h1, h2, h3, h4⟩ := hpre
  obtain ⟨tp, htp⟩ : ∃ tp, tp = 2 ^ w := ⟨_, rfl⟩
  have hp := pw_le h2
  have hp1 := Nat.two_pow_pos w
  rw [← htp] at hp hp1 h3
  walk_at "seq"
  with_reducible refine' s_asgV (n := (tp : Int)) ?hO43 ?he43 ?hd43 ?hn43 ?_
  case hO43 => assumption
  case he43 => walk_at "ev"
  case hn43 => walk_at "nrm"
  case hd43 => exact congrArg D.int (by rw [pw, htp])
  intro _ _
  have hd : CDivW n (tp : Int) := by
    have := divW n (w := w) (by omega)
    rw [pw, ← htp] at this
    exact this
  have hm : CMulW (tp : Int) (n / (tp : Int)) := by
    refine wide_mul (a := 65) (b := 81) ?_ ?_ (by decide) (by decide) (by decide)
    · rw [Int.natAbs_natCast]
      exact Nat.lt_of_le_of_lt hp (by decide)
    · have : (n / (tp : Int)).natAbs ≤ n.natAbs := Int.natAbs_ediv_le_natAbs n tp
      have e : (2 : Nat) ^ 80 ≤ 2 ^ 81 := by decide
      omega
  have cw : P_wrap [.int n, .int (w : Int)] (.int (n % (tp : Int))) := ⟨n, w, rfl, h2, by rw [htp]⟩
  walk_at "seq"
  with_reducible refine' s_asgO ?hO45 ?he45 ?_
  case hO45 => assumption
  case he45 => walk_at "en"
  intro l xs G1 H1 e1 hO1 x1
  dsimp only [List.set]
  have er : n - (tp : Int) * (n / (tp : Int)) = n % (tp : Int) := by
    have := Int.mul_ediv_add_emod n (tp : Int)
    omega
  rw [er] at x1
  have hd2 : CDivW (tp : Int) 2 := ⟨by decide, by decide⟩
  have e2w : tp = 2 * 2 ^ (w - 1) := by
    rw [htp, Nat.mul_comm, ← Nat.pow_succ]
    congr 1
    omega
  walk_at "seq"
  with_reducible refine' s_forL (Pv := (fun G' m σ' H' => ∃ (a b : Option V) (G2 : Hp) (ys : List V) (as : List Int), σ' = [some (V.int n), some (V.int (w : Int)), some (V.int (v : Int)), some (V.int (tp : Int)), some (V.ref l), a, b] ∧ Evl.Ex G' G2 ∧ Own K G2 H' ((l, .lst ys) :: os) ∧ IsA K G2 ys (as.map eqP) ∧ as.length = m + 1)) ?hO47 ?he47 ?h047 ?hl47 ?hs47 ?hd47
  case hO47 => assumption
  case he47 => first | walk_at "ea" | walk_at "ev"
  case h047 => intro G' H' e hO'; exact ⟨none, none, G', xs, [n % (tp : Int)], rfl, Evl.Ex.refl _, hO', x1.mono e, rfl⟩
  case hl47 => intro G' m σ' H' ⟨_, _, G2, _, _, _, e2, hO', _⟩; exact e2.trans hO'.ex
  case hs47 =>
    intro G' m x u σ' H' e hx hu ⟨a, b, G2, ys, as, hσ, e2, hO', y2, hlen⟩
    subst hσ
    obtain ⟨z, rfl, hz0⟩ : ∃ z : Nat, x = .int (z : Int) ∧ z < tp := by
      have hm := List.mem_of_getElem? hx
      simp only [List.mem_cons, List.not_mem_nil, or_false] at hm
      rcases hm with q | q | q | q | q
      · exact ⟨0, q, by omega⟩
      · exact ⟨tp / 2 - 1, q.trans (congrArg D.int (by omega)), by omega⟩
      · exact ⟨tp / 2, q.trans (congrArg D.int (by omega)), by omega⟩
      · exact ⟨tp - 1, q.trans (congrArg D.int (by omega)), by omega⟩
      · exact ⟨v, q, h3⟩
    have := hu.int_inv
    subst this
    dsimp only [gName, List.set]
    have hm5 : m < 5 := (List.getElem?_eq_some_iff.mp hx).1
    walk_at "st"
    walk_at "seq"
    with_reducible refine' s_ifV (n := (if (z : Int) ≥ ((2 ^ (w - 1) : Nat) : Int) then (z : Int) - ((2 ^ w : Nat) : Int) else (z : Int))) ?hx44 ?hO44 ?ht44 ?he44 ?hd44 ?hn44 ?_
    case hO44 => assumption
    case ht44 => walk_at "et"
    case hx44 => rfl
    case he44 => intro _; walk_at "ev"
    case hn44 => walk_at "nrm"
    case hd44 => exact (by rw [← htp]; by_cases q : (z : Int) ≥ ((2 ^ (w - 1) : Nat) : Int); (rw [if_pos q, if_pos (decide_eq_true (by omega))]); (rw [if_neg q, if_neg (by rw [decide_eq_true_eq]; omega)]))
    intro _ _
    have cs : P_signed [.int (z : Int), .int (w : Int)] (.int (if (z : Int) ≥ ((2 ^ (w - 1) : Nat) : Int) then (z : Int) - ((2 ^ w : Nat) : Int) else (z : Int))) := ⟨z, w, rfl, ⟨h1, h2⟩, rfl⟩
    have hz : ys.length < 100 := by rw [y2.length, List.length_map]; omega
    with_reducible refine' s_app (j := 0) ?hO46 ?hl46 ?hj46 ?hz46 ?he46 ?_
    case hO46 => assumption
    case hl46 => rfl
    case hj46 => rfl
    case he46 => walk_at "ev"
    case hz46 => walk_at "sz"
    intro w2 G4 H4 e4 hO4 i4
    dsimp only [List.set] at *
    refine ⟨_, _, G4, _, as ++ [if (z : Int) ≥ ((2 ^ (w - 1) : Nat) : Int) then (z : Int) - ((2 ^ w : Nat) : Int) else (z : Int)], rfl, e2.trans e4, hO4, ?_, ?_⟩
    · rw [List.map_append]
      exact (y2.mono e4).snoc i4
    · rw [List.length_append, hlen]; rfl
  case hd47 =>
    intro G' σ' H' e ⟨a, b, G2, ys, as, hσ, e2, hO', y2, hlen⟩
    subst hσ
    have e6 := hO'.freezeEx
    have hO6 := hO'.freeze
    have i6 := Is.lst (K := K) (Evl.sq_of upd_same) (y2.mono e6)
    have ceq : P_law_equal [.lst (as.map eqP)] (.bl true) := ⟨_, rfl, trivial, rfl⟩
    walk_at "st"
    rfl
end
theorem p_far (ns : List Int) (k : Nat) : P_law_far [.lst (ns.map .int), .int (k : Int)] (.int (far ns k : Int)) := ⟨ns, k, rfl, trivial, rfl⟩
theorem p_wide (cell bound : Nat) (h : 0 < bound) : P_law_wide [.int (cell : Int), .int (bound : Int)] (.int (wide cell bound : Int)) := ⟨cell, bound, rfl, h, rfl⟩
theorem wide_lt {cell bound : Nat} (h : 0 < bound) : wide cell bound < bound := by
  unfold wide
  split <;> exact Nat.mod_lt _ h
theorem range_sum (ps : List (Nat × Nat)) : ((List.range ps.length).map fun m => (((ps.getD m (0, 0)).2 : Nat) : Int)).sum = (bitsN ps : Int) := by
  induction ps with
  | nil => rfl
  | cons p r ih =>
    rw [List.length_cons, List.range_succ_eq_map, List.map_cons, List.map_map, List.sum_cons]
    have e : ((fun m : Nat => ((((p :: r).getD m (0, 0)).2 : Nat) : Int)) ∘ Nat.succ) = fun m : Nat => (((r.getD m (0, 0)).2 : Nat) : Int) := by
      funext m
      show ((((p :: r).getD (m + 1) (0, 0)).2 : Nat) : Int) = _
      rw [List.getD_cons_succ]
    rw [e, ih]
    show ((p.2 : Nat) : Int) + (bitsN r : Int) = ((((p :: r).map (·.2)).sum : Nat) : Int)
    rw [List.map_cons, List.sum_cons]
    unfold bitsN
    push_cast
    rfl

abbrev P_law_round : List D → D → Prop := fun ds d => ∃ (ns : List Int) (b : Nat), ds = [.lst (ns.map .int), .int b] ∧ (b ≤ 100) ∧ d = .bl true
section
variable {P : Program} {w : World} {K : PySem.W.Frag} {mg : Str → Option Value} {base : Heap}
theorem ok_law_round (B : Bi mg) (A : At K mg "_law_round" s_law_round) (C_law_draws : Fn P w K mg base "_law_draws" 2 ["cell", "count", "base"] (Pr K P_law_draws)) (C_law_wide : Fn P w K mg base "_law_wide" 2 ["cell", "bound"] (Pr K P_law_wide)) (C_law_pieces : Fn P w K mg base "_law_pieces" 3 ["cell"] (Pr K P_law_pieces)) (C_law_far : Fn P w K mg base "_law_far" 2 ["script", "k"] (Pr K P_law_far)) (C_law_pieces_right : Fn P w K mg base "_law_pieces_right" 3 ["pieces", "word", "value"] (Pr K P_law_pieces_right)) (C_law_bytes_right : Fn P w K mg base "_law_bytes_right" 3 ["old", "new", "cover"] (Pr K P_law_bytes_right)) (C_law_numbers_right : Fn P w K mg base "_law_numbers_right" 3 ["number", "width", "value"] (Pr K P_law_numbers_right)) : Fn P w K mg base "_law_round" 4 ["script", "base"] (Pr K P_law_round) := by
  refine Fn.pure A sc_law_round (fun _ _ _ _ _ _ us hl => match us, hl with | [_, _], _ => rfl) (fun ds d h => by obtain ⟨_, _, e, _⟩ := h; subst e; rfl) fun f cdv A outer s H E hr => ⟨_,
    (pss_cons (ps_set (i := 2) sc_law_round.nd rfl (.inl rfl) (pe_callTy (callTup (K := K) rfl) (by rfl) B.m_tuple (by decide +kernel) (pa_cons (pe_fn C_law_pieces (hr.mono (by decide)) (by rfl) (pa_cons (pe_fn C_law_far (hr.mono (by decide)) (by rfl) (pa_cons (pv 0) (pa_cons (pv 1) pa_nil))) pa_nil)) pa_nil)))
      (pss_cons (ps_set (i := 3) sc_law_round.nd rfl (.inl rfl) (pe_fn C_law_draws (hr.mono (by decide)) (by rfl) (pa_cons (pe_fn C_law_far (hr.mono (by decide)) (by rfl) (pa_cons (pv 0) (pa_cons (pe_op op_add (pv 1) pe_int) pa_nil))) (pa_cons pe_int (pa_cons pe_int pa_nil)))))
      (pss_cons (ps_set (i := 4) sc_law_round.nd rfl (.inl rfl) (pe_callB (callSum (K := K) rfl rfl) (by rfl) B.m_sum (by decide +kernel) (pa_cons (pe_lc (own := [("piece", 13)]) (tt := tYes) rfl sc_law_round.nd (piT (K := K) rfl (pv 2)) (blkOk_by (own := [("piece", 13)]) (N := ["script", "base", "pieces", "draws", "many", "word", "value", "old", "new", "cover", "width", "number", "turn", "piece"]) (sc := defScope s_law_round) (by decide +kernel)) (fun _ _ _ _ _ => (pg_name (i := 13) sc_law_round.nd rfl (.inl rfl))) (fun _ _ _ _ _ => pts_nil) (fun _ _ _ _ _ => (pe_ix (ixT (K := K) rfl) (pv 13) pe_int (fun _ _ => rfl)))) pa_nil)))
      (pss_cons (ps_set (i := 5) sc_law_round.nd rfl (.inl rfl) (pe_fn C_law_wide (hr.mono (by decide)) (by rfl) (pa_cons (pe_fn C_law_far (hr.mono (by decide)) (by rfl) (pa_cons (pv 0) (pa_cons (pe_op op_add (pv 1) pe_int) pa_nil))) (pa_cons (pe_op op_shl pe_int pe_int) pa_nil))))
      (pss_cons (ps_if (pt_cmpR op_eq (pe_op op_mod (pe_ix (ixL (K := K) rfl) (pv 3) pe_int (fun _ _ => rfl)) pe_int) pe_int (nomark _)) (pss_one (ps_set (i := 5) sc_law_round.nd rfl (.inl rfl) (pe_op op_sub (pe_op op_shl pe_int pe_int) pe_int))) pss_nil)
      (pss_cons (ps_set (i := 6) sc_law_round.nd rfl (.inl rfl) (pe_fn C_law_wide (hr.mono (by decide)) (by rfl) (pa_cons (pe_fn C_law_far (hr.mono (by decide)) (by rfl) (pa_cons (pv 0) (pa_cons (pe_op op_add (pv 1) pe_int) pa_nil))) (pa_cons (pe_op op_shl pe_int (pv 4)) pa_nil))))
      (pss_cons (ps_if (pt_cmpR op_eq (pe_op op_mod (pe_ix (ixL (K := K) rfl) (pv 3) pe_int (fun _ _ => rfl)) pe_int) pe_int (nomark _)) (pss_one (ps_set (i := 6) sc_law_round.nd rfl (.inl rfl) (pe_op op_sub (pe_op op_shl pe_int (pv 4)) pe_int))) pss_nil)
      (pss_cons (ps_if (pt_cmpR op_eq (pe_op op_mod (pe_ix (ixL (K := K) rfl) (pv 3) pe_int (fun _ _ => rfl)) pe_int) pe_int (nomark _)) (pss_one (ps_set (i := 6) sc_law_round.nd rfl (.inl rfl) pe_int)) pss_nil)
      (pss_cons (ps_set (i := 7) sc_law_round.nd rfl (.inl rfl) (pe_fn C_law_wide (hr.mono (by decide)) (by rfl) (pa_cons (pe_fn C_law_far (hr.mono (by decide)) (by rfl) (pa_cons (pv 0) (pa_cons (pe_op op_add (pv 1) pe_int) pa_nil))) (pa_cons (pe_op op_shl pe_int pe_int) pa_nil))))
      (pss_cons (ps_set (i := 8) sc_law_round.nd rfl (.inl rfl) (pe_fn C_law_wide (hr.mono (by decide)) (by rfl) (pa_cons (pe_fn C_law_far (hr.mono (by decide)) (by rfl) (pa_cons (pv 0) (pa_cons (pe_op op_add (pv 1) pe_int) pa_nil))) (pa_cons (pe_op op_shl pe_int pe_int) pa_nil))))
      (pss_cons (ps_set (i := 9) sc_law_round.nd rfl (.inl rfl) (pe_op op_mod (pe_callTy call_int1 (by rfl) B.m_int (by decide +kernel) (pa_cons (pe_ix (ixL (K := K) rfl) (pv 3) pe_int (fun _ _ => rfl)) pa_nil)) pe_int))
      (pss_cons (ps_set (i := 10) sc_law_round.nd rfl (.inl rfl) (pe_op op_add pe_int (pe_op op_mod (pe_callTy call_int1 (by rfl) B.m_int (by decide +kernel) (pa_cons (pe_ix (ixL (K := K) rfl) (pv 3) pe_int (fun _ _ => rfl)) pa_nil)) pe_int)))
      (pss_cons (ps_set (i := 11) sc_law_round.nd rfl (.inl rfl) (pe_fn C_law_wide (hr.mono (by decide)) (by rfl) (pa_cons (pe_fn C_law_far (hr.mono (by decide)) (by rfl) (pa_cons (pv 0) (pa_cons (pe_op op_add (pv 1) pe_int) pa_nil))) (pa_cons (pe_op op_shl pe_int pe_int) pa_nil))))
      (pss_cons (ps_if (pt_cmpR op_eq (pe_op op_mod (pe_ix (ixL (K := K) rfl) (pv 3) pe_int (fun _ _ => rfl)) pe_int) pe_int (nomark _)) (pss_one (ps_set (i := 11) sc_law_round.nd rfl (.inl rfl) (pe_op op_sub (pe_op op_add (pe_op op_mulW (pe_op op_fdivW (pv 11) (pe_op op_shl pe_int (pv 10))) (pe_op op_shl pe_int (pv 10))) (pe_op op_mod (pe_callTy call_int1 (by rfl) B.m_int (by decide +kernel) (pa_cons (pe_ix (ixL (K := K) rfl) (pv 3) pe_int (fun _ _ => rfl)) pa_nil)) pe_int)) pe_int))) pss_nil)
      (pss_cons (ps_if (pt_cmpR op_eq (pe_op op_mod (pe_ix (ixL (K := K) rfl) (pv 3) pe_int (fun _ _ => rfl)) pe_int) pe_int (nomark _)) (pss_one (ps_set (i := 11) sc_law_round.nd rfl (.inl rfl) (pe_un un_neg (pv 11)))) pss_nil)
      (pss_cons (ps_for PassesOwn.never rfl (pi_range1 (by rfl) B.m_range (pa_cons pe_int pa_nil)) (pg_name (i := 12) sc_law_round.nd rfl (.inl rfl)) (pss_cons (ps_if (pt_not (pt_val (pe_fn C_law_pieces_right (hr.mono (by decide)) (by rfl) (pa_cons (pv 2) (pa_cons (pv 5) (pa_cons (pv 6) pa_nil)))))) (pss_one (ps_ret pe_bl)) pss_nil) (pss_cons (ps_if (pt_not (pt_val (pe_fn C_law_bytes_right (hr.mono (by decide)) (by rfl) (pa_cons (pv 7) (pa_cons (pv 8) (pa_cons (pv 9) pa_nil)))))) (pss_one (ps_ret pe_bl)) pss_nil) (pss_one (ps_if (pt_not (pt_val (pe_fn C_law_numbers_right (hr.mono (by decide)) (by rfl) (pa_cons (pv 11) (pa_cons (pv 10) (pa_cons (pe_op op_mod (pe_callTy call_int1 (by rfl) B.m_int (by decide +kernel) (pa_cons (pv 7) pa_nil)) (pe_op op_shl pe_int (pv 10))) pa_nil)))))) (pss_one (ps_ret pe_bl)) pss_nil)))))
      (pss_one (ps_ret pe_bl)))))))))))))))))), ?_⟩
  try dsimp only [cxOf, Cx.nox, Cx.wish]
  intro G os ds d vs Q hO hv hp q
  obtain ⟨ns, b, rfl, hpre, rfl⟩ := hp
  obtain ⟨v1, _, rfl, i1, hv⟩ := hv.cons_inv
  obtain ⟨v2, _, rfl, i2, hv⟩ := hv.cons_inv
  have := hv.nil_inv; subst this
  have := i2.int_inv; subst this
  rw [show start ["script", "base", "pieces", "draws", "many", "word", "value", "old", "new", "cover", "width", "number", "turn", "piece"] [v1, V.int b] = [some (v1), some (V.int b), none, none, none, none, none, none, none, none, none, none, none, none] from rfl]

  have f0 := p_far ns b
  have f1 : P_law_far [.lst (ns.map .int), .int ((b : Int) + 1)] (.int (far ns (b + 1) : Int)) := p_far ns (b + 1)
  have f2 : P_law_far [.lst (ns.map .int), .int ((b : Int) + 2)] (.int (far ns (b + 2) : Int)) := p_far ns (b + 2)
  have f3 : P_law_far [.lst (ns.map .int), .int ((b : Int) + 3)] (.int (far ns (b + 3) : Int)) := p_far ns (b + 3)
  have f4 : P_law_far [.lst (ns.map .int), .int ((b : Int) + 4)] (.int (far ns (b + 4) : Int)) := p_far ns (b + 4)
  have f5 : P_law_far [.lst (ns.map .int), .int ((b : Int) + 5)] (.int (far ns (b + 5) : Int)) := p_far ns (b + 5)
  have f6 : P_law_far [.lst (ns.map .int), .int ((b : Int) + 6)] (.int (far ns (b + 6) : Int)) := p_far ns (b + 6)
  have fp : P_law_pieces [.int (far ns b : Int)] (.lst ((pieces (far ns b)).map pc)) := ⟨_, rfl, trivial, rfl⟩
  obtain ⟨o1, o2, o3, o4, o5⟩ := pst_ok (draws (far ns b) 20 1000) ((draws (far ns b) 20 1000).getD 1 0 % 7)
  have ops : (∀ p ∈ pieces (far ns b), p.1 + p.2 ≤ 64) ∧ bitsN (pieces (far ns b)) ≤ 64 ∧ (spots (pieces (far ns b))).Nodup ∧ (pieces (far ns b)).length ≤ 7 :=
    ⟨fun p hp => Nat.le_trans (o1 p hp) o2, Nat.le_trans o5 o2, o3, Nat.le_trans o4 (by omega)⟩
  clear o1 o2 o3 o4 o5
  obtain ⟨ps, hps⟩ : ∃ ps, ps = pieces (far ns b) := ⟨_, rfl⟩
  rw [← hps] at ops fp
  walk_at "seq"
  with_reducible refine' s_asg ?hO60 ?he60 ?hn60 ?_
  case hO60 => assumption
  case he60 => walk_at "ev"
  case hn60 => intro _; rfl
  intro vp G1 H1 e1 hO1 ip
  dsimp only [List.set]
  have fd : P_law_draws [.int (far ns (b + 1) : Int), .int 7, .int 1024] (.lst ((draws (far ns (b + 1)) 7 1024).map nI)) := ⟨_, 7, 1024, rfl, ⟨by decide, by decide⟩, rfl⟩
  obtain ⟨d, hd⟩ : ∃ d, d = draws (far ns (b + 1)) 7 1024 := ⟨_, rfl⟩
  have hl : d.length = 7 := by rw [hd]; exact drw_len _ 1024 7
  have hdl : ∀ j, d.getD j 0 < 1024 := fun j => by
    rw [List.getD_eq_getElem?_getD]
    cases e : d[j]? with
    | none => decide
    | some x => exact draws_lt (by decide) _ 7 x (by have := List.mem_of_getElem? e; rw [hd] at this; exact this)
  rw [← hd] at fd
  walk_at "seq"
  with_reducible refine' s_asg ?hO61 ?he61 ?hn61 ?_
  case hO61 => assumption
  case he61 => walk_at "ev"
  case hn61 => intro _; rfl
  intro vd G2 H2 e2 hO2 id2
  dsimp only [List.set]
  have a0 : atI (d.map nI) 0 = some (.int (d.getD 0 0 : Int)) := at_nI (by omega) rfl
  have a1 : atI (d.map nI) 1 = some (.int (d.getD 1 0 : Int)) := at_nI (by omega) rfl
  have a2 : atI (d.map nI) 2 = some (.int (d.getD 2 0 : Int)) := at_nI (by omega) rfl
  have a3 : atI (d.map nI) 3 = some (.int (d.getD 3 0 : Int)) := at_nI (by omega) rfl
  have a4 : atI (d.map nI) 4 = some (.int (d.getD 4 0 : Int)) := at_nI (by omega) rfl
  have a5 : atI (d.map nI) 5 = some (.int (d.getD 5 0 : Int)) := at_nI (by omega) rfl
  have a6 : atI (d.map nI) 6 = some (.int (d.getD 6 0 : Int)) := at_nI (by omega) rfl
  have d2 := hdl 2
  have d3 := hdl 3
  have d5 := hdl 5
  -- many
  walk_at "seq"
  with_reducible refine' s_asgV (n := (bitsN ps : Int)) ?aO ?ae ?ad ?an ?_
  case aO => assumption
  case an => walk_at "nrm"
  case ae =>
    with_reducible refine' ev_cb ?ahr ?aha
    case aha =>
      with_reducible refine' ea_cons ?ah1 ?ah2
      case ah2 => walk_at "ea"
      case ah1 =>
        with_reducible refine' ev_new ?aen
        case aen =>
          with_reducible refine' en_lcT (f := fun m => D.int (((ps.getD m (0, 0)).2 : Nat) : Int)) ?ab1 ?ab2 ?ab3
          case ab1 => walk_at "ev"
          case ab2 => have h7 := ops.2.2.2; rw [List.length_map]; omega
          case ab3 =>
            intro m x u G' H' R e e' hx hu hR
            obtain ⟨lo, c, hp, rfl⟩ := pc_at hx
            have eg : ps.getD m (0, 0) = (lo, c) := by rw [List.getD_eq_getElem?_getD, hp]; rfl
            dsimp only [wipe, List.map, List.set, gName]
            refine hR _ rfl fun p => ?_
            rw [eg]
            walk_at "ev"
    case ahr => exact rc_sumR
  case ad =>
    refine congrArg D.int ?_
    rw [List.length_map]
    exact range_sum ps
  intro _ _
  have p72 : (0 : Int) < 1 * 2 ^ (72 : Int).toNat := by decide
  have e72 : (1 : Int) * 2 ^ (72 : Int).toNat = ((2 ^ 72 : Nat) : Int) := by decide
  have c72 : CPow 1 72 := ⟨by decide, by decide, by decide⟩
  have e64 : (1 : Int) * 2 ^ (64 : Int).toNat = ((2 ^ 64 : Nat) : Int) := by decide
  have w72 := p_wide (far ns (b + 2)) (2 ^ 72) (by decide)
  rw [← e72] at w72
  walk_at "seq"
  with_reducible refine' s_asgV (n := (wide (far ns (b + 2)) (2 ^ 72) : Int)) ?hO48 ?he48 ?hd48 ?hn48 ?_
  case hO48 => assumption
  case he48 => walk_at "ev"
  case hn48 => walk_at "nrm"
  case hd48 => exact congrArg D.int (rfl)
  intro _ _
  walk_at "seq"
  with_reducible refine' s_ifV (n := ((if d.getD 0 0 % 4 = 1 then 2 ^ 72 - 1 else wide (far ns (b + 2)) (2 ^ 72) : Nat) : Int)) ?hx55 ?hO55 ?ht55 ?he55 ?hd55 ?hn55 ?_
  case hO55 => assumption
  case ht55 => walk_at "et"
  case hx55 => rfl
  case he55 => intro _; walk_at "ev"
  case hn55 => walk_at "nrm"
  case hd55 => exact (by by_cases z : d.getD 0 0 % 4 = 1; (rw [if_pos z, if_pos (decide_eq_true (by omega)), e72]; rfl); (rw [if_neg z, if_neg (by rw [decide_eq_true_eq]; omega)]))
  intro _ _
  generalize hwd : (if d.getD 0 0 % 4 = 1 then 2 ^ 72 - 1 else wide (far ns (b + 2)) (2 ^ 72) : Nat) = word at *
  have hb64 := ops.2.1
  have wm := p_wide (far ns (b + 3)) (2 ^ bitsN ps) (Nat.two_pow_pos _)
  rw [← pw] at wm
  walk_at "seq"
  with_reducible refine' s_asgV (n := (wide (far ns (b + 3)) (2 ^ bitsN ps) : Int)) ?hO49 ?he49 ?hd49 ?hn49 ?_
  case hO49 => assumption
  case he49 => walk_at "ev"
  case hn49 => walk_at "nrm"
  case hd49 => exact congrArg D.int (rfl)
  intro _ _
  have p2 := Nat.two_pow_pos (bitsN ps)
  walk_at "seq"
  with_reducible refine' s_ifV (n := ((if d.getD 1 0 % 4 = 1 then 2 ^ bitsN ps - 1 else wide (far ns (b + 3)) (2 ^ bitsN ps) : Nat) : Int)) ?hx56 ?hO56 ?ht56 ?he56 ?hd56 ?hn56 ?_
  case hO56 => assumption
  case ht56 => walk_at "et"
  case hx56 => rfl
  case he56 => intro _; walk_at "ev"
  case hn56 => walk_at "nrm"
  case hd56 => exact (by by_cases z : d.getD 1 0 % 4 = 1; (rw [if_pos z, if_pos (decide_eq_true (by omega)), pw]; omega); (rw [if_neg z, if_neg (by rw [decide_eq_true_eq]; omega)]))
  intro _ _
  walk_at "seq"
  with_reducible refine' s_ifV (n := ((if d.getD 1 0 % 8 = 2 then 0 else if d.getD 1 0 % 4 = 1 then 2 ^ bitsN ps - 1 else wide (far ns (b + 3)) (2 ^ bitsN ps) : Nat) : Int)) ?hx57 ?hO57 ?ht57 ?he57 ?hd57 ?hn57 ?_
  case hO57 => assumption
  case ht57 => walk_at "et"
  case hx57 => rfl
  case he57 => intro _; walk_at "ev"
  case hn57 => walk_at "nrm"
  case hd57 => exact (by by_cases z : d.getD 1 0 % 8 = 2; (rw [if_pos z, if_pos (decide_eq_true (by omega))]; rfl); (rw [if_neg z, if_neg (by rw [decide_eq_true_eq]; omega)]))
  intro _ _
  have hv : (if d.getD 1 0 % 8 = 2 then 0 else if d.getD 1 0 % 4 = 1 then 2 ^ bitsN ps - 1 else wide (far ns (b + 3)) (2 ^ bitsN ps) : Nat) < 2 ^ bitsN ps := by
    have := wide_lt (cell := far ns (b + 3)) p2
    split
    · exact p2
    · split <;> omega
  generalize (if d.getD 1 0 % 8 = 2 then 0 else if d.getD 1 0 % 4 = 1 then 2 ^ bitsN ps - 1 else wide (far ns (b + 3)) (2 ^ bitsN ps) : Nat) = value at *
  have w4 := p_wide (far ns (b + 4)) (2 ^ 64) (by decide)
  have w5 := p_wide (far ns (b + 5)) (2 ^ 64) (by decide)
  have l4 := wide_lt (cell := far ns (b + 4)) (bound := 2 ^ 64) (by decide)
  have l5 := wide_lt (cell := far ns (b + 5)) (bound := 2 ^ 64) (by decide)
  rw [← e64] at w4 w5
  walk_at "seq"
  with_reducible refine' s_asgV (n := (wide (far ns (b + 4)) (2 ^ 64) : Int)) ?hO50 ?he50 ?hd50 ?hn50 ?_
  case hO50 => assumption
  case he50 => walk_at "ev"
  case hn50 => walk_at "nrm"
  case hd50 => exact congrArg D.int (rfl)
  intro _ _
  walk_at "seq"
  with_reducible refine' s_asgV (n := (wide (far ns (b + 5)) (2 ^ 64) : Int)) ?hO51 ?he51 ?hd51 ?hn51 ?_
  case hO51 => assumption
  case he51 => walk_at "ev"
  case hn51 => walk_at "nrm"
  case hd51 => exact congrArg D.int (rfl)
  intro _ _
  generalize wide (far ns (b + 4)) (2 ^ 64) = old at *
  generalize wide (far ns (b + 5)) (2 ^ 64) = new at *
  walk_at "seq"
  with_reducible refine' s_asgV (n := ((d.getD 2 0 % 256 : Nat) : Int)) ?hO52 ?he52 ?hd52 ?hn52 ?_
  case hO52 => assumption
  case he52 => walk_at "ev"
  case hn52 => walk_at "nrm"
  case hd52 => exact congrArg D.int (by omega)
  intro _ _
  walk_at "seq"
  with_reducible refine' s_asgV (n := ((1 + d.getD 3 0 % 64 : Nat) : Int)) ?hO53 ?he53 ?hd53 ?hn53 ?_
  case hO53 => assumption
  case he53 => walk_at "ev"
  case hn53 => walk_at "nrm"
  case hd53 => exact congrArg D.int (by omega)
  intro _ _
  have hw64 : 1 ≤ 1 + d.getD 3 0 % 64 ∧ 1 + d.getD 3 0 % 64 ≤ 64 := by omega
  generalize 1 + d.getD 3 0 % 64 = wd at *
  have w6 := p_wide (far ns (b + 6)) (2 ^ 72) (by decide)
  have l6 := wide_lt (cell := far ns (b + 6)) (bound := 2 ^ 72) (by decide)
  rw [← e72] at w6
  walk_at "seq"
  with_reducible refine' s_asgV (n := (wide (far ns (b + 6)) (2 ^ 72) : Int)) ?hO54 ?he54 ?hd54 ?hn54 ?_
  case hO54 => assumption
  case he54 => walk_at "ev"
  case hn54 => walk_at "nrm"
  case hd54 => exact congrArg D.int (rfl)
  intro _ _
  generalize wide (far ns (b + 6)) (2 ^ 72) = nu at *
  have hdv := divW (nu : Int) (w := wd) (by omega)
  have hq : (nu : Int) / (1 * 2 ^ ((wd : Int)).toNat) = ((nu / 2 ^ wd : Nat) : Int) := by rw [pw]; push_cast; rfl
  have hql : nu / 2 ^ wd ≤ nu := Nat.div_le_self _ _
  have hqm : nu / 2 ^ wd * 2 ^ wd ≤ nu := Nat.div_mul_le_self _ _
  have hmw : CMulW ((nu : Int) / (1 * 2 ^ ((wd : Int)).toNat)) (1 * 2 ^ ((wd : Int)).toNat) := by
    rw [hq, pw]
    refine wide_mul (a := 72) (b := 65) ?_ ?_ (by decide) (by decide) (by decide)
    · rw [Int.natAbs_natCast]; omega
    · rw [Int.natAbs_natCast]
      have := pw_le hw64.2
      omega
  obtain ⟨n1, hn1, hn1b⟩ : ∃ n1 : Int, (if decide ((d.getD 4 0 : Int) % 3 = 1) = true then (nu : Int) / (1 * 2 ^ ((wd : Int)).toNat) * (1 * 2 ^ ((wd : Int)).toNat) + (d.getD 5 0 : Int) % 3 - 1 else (nu : Int)) = n1 ∧ n1.natAbs < 2 ^ 80 := by
    refine ⟨_, rfl, ?_⟩
    have e80 : (2 : Nat) ^ 72 + 10 < 2 ^ 80 := by decide
    split
    · rw [hq, pw]
      have : ((nu / 2 ^ wd : Nat) : Int) * ((2 ^ wd : Nat) : Int) = ((nu / 2 ^ wd * 2 ^ wd : Nat) : Int) := by push_cast; rfl
      rw [this]
      omega
    · omega
  walk_at "seq"
  with_reducible refine' s_ifV (n := n1) ?hx58 ?hO58 ?ht58 ?he58 ?hd58 ?hn58 ?_
  case hO58 => assumption
  case ht58 => walk_at "et"
  case hx58 => rfl
  case he58 => intro _; walk_at "ev"
  case hn58 => walk_at "nrm"
  case hd58 => exact hn1
  intro _ _
  obtain ⟨n2, hn2, hn2b⟩ : ∃ n2 : Int, (if decide ((d.getD 6 0 : Int) % 2 = 1) = true then -n1 else n1) = n2 ∧ n2.natAbs < 2 ^ 80 := by
    refine ⟨_, rfl, ?_⟩
    split <;> omega
  walk_at "seq"
  with_reducible refine' s_ifV (n := n2) ?hx59 ?hO59 ?ht59 ?he59 ?hd59 ?hn59 ?_
  case hO59 => assumption
  case ht59 => walk_at "et"
  case hx59 => rfl
  case he59 => intro _; walk_at "ev"
  case hn59 => walk_at "nrm"
  case hd59 => exact hn2
  intro _ _
  have cpr : P_law_pieces_right [.tup (ps.map pc), .int (word : Int), .int (value : Int)] (.bl true) := ⟨ps, word, value, rfl, ⟨ops.1, ops.2.1, ops.2.2.1, hv⟩, rfl⟩
  have cbr : P_law_bytes_right [.int (old : Int), .int (new : Int), .int ((d.getD 2 0 % 256 : Nat) : Int)] (.bl true) := ⟨old, new, _, rfl, ⟨l4, l5, by omega⟩, rfl⟩
  have cnr : P_law_numbers_right [.int n2, .int (wd : Int), .int ((old : Int) % (1 * 2 ^ ((wd : Int)).toNat))] (.bl true) := by
    refine ⟨n2, wd, old % 2 ^ wd, ?_, ⟨hw64.1, hw64.2, Nat.mod_lt _ (Nat.two_pow_pos _), hn2b⟩, rfl⟩
    rw [pw]
    push_cast
    rfl
  have hpp := pw_pos wd
  walk_at "seq"
  with_reducible refine' s_forR1 (Pv := (fun m σ' H' => ∃ a, σ' = [some v1, some (V.int (b : Int)), some vp, some vd, some (V.int (bitsN ps : Int)), some (V.int (word : Int)), some (V.int (value : Int)), some (V.int (old : Int)), some (V.int (new : Int)), some (V.int ((d.getD 2 0 % 256 : Nat) : Int)), some (V.int (wd : Int)), some (V.int n2), a, none] ∧ Own K G2 H' os)) ?hO62 ?he62 ?hn62 ?h062 ?hs62 ?hd62
  case hO62 => assumption
  case he62 => first | walk_at "ea" | walk_at "ev"
  case hn62 => exact ⟨by decide, by decide⟩
  case h062 => intro H' hO'; exact ⟨none, rfl, hO'⟩
  case hs62 =>
    intro m σ' H' hm ⟨a, hσ, hO'⟩
    subst hσ
    dsimp only [List.set]
    walk_at "if"
    · intro hb; simp at hb
    · intro _ _ _
      walk_at "st"
      walk_at "if"
      · intro hb; simp at hb
      · intro _ _ _
        walk_at "st"
        walk_at "if1"
        · intro hb; simp at hb
        · intro _ _ _
          walk_at "st"
          exact ⟨_, rfl, ‹_›⟩
  case hd62 =>
    intro σ' H' ⟨a, hσ, hO'⟩
    subst hσ
    walk_at "st"
    rfl
end

abbrev P_law : List D → D → Prop := fun ds d => ∃ (ns : List Int), ds = [.lst (ns.map .int)] ∧ (ns.length ≤ 63) ∧ d = .bl true
section
variable {P : Program} {w : World} {K : PySem.W.Frag} {mg : Str → Option Value} {base : Heap}
theorem ok_law (B : Bi mg) (A : At K mg "law" s_law) (C_law_round : Fn P w K mg base "_law_round" 4 ["script", "base"] (Pr K P_law_round)) : Fn P w K mg base "law" 5 ["script"] (Pr K P_law) := by
  refine Fn.pure A sc_law (fun _ _ _ _ _ _ us hl => match us, hl with | [_], _ => rfl) (fun ds d h => by obtain ⟨_, e, _⟩ := h; subst e; rfl) fun f cdv A outer s H E hr => ⟨_,
    (pss_cons (ps_for PassesOwn.never rfl (pi_range1 (by rfl) B.m_range (pa_cons pe_int pa_nil)) (pg_name (i := 1) sc_law.nd rfl (.inl rfl)) (pss_one (ps_if (pt_not (pt_val (pe_fn C_law_round (hr.mono (by decide)) (by rfl) (pa_cons (pv 0) (pa_cons (pe_op op_mul pe_int (pv 1)) pa_nil))))) (pss_one (ps_ret pe_bl)) pss_nil)))
      (pss_one (ps_ret pe_bl))), ?_⟩
  try dsimp only [cxOf, Cx.nox, Cx.wish]
  intro G os ds d vs Q hO hv hp q
  obtain ⟨ns, rfl, hpre, rfl⟩ := hp
  obtain ⟨v1, _, rfl, i1, hv⟩ := hv.cons_inv
  have := hv.nil_inv; subst this
  rw [show start ["script", "k"] [v1] = [some (v1), none] from rfl]

  have pr : ∀ m : Nat, (m : Int) < 3 → P_law_round [.lst (ns.map .int), .int (7 * (m : Int))] (.bl true) := fun m hm => ⟨ns, 7 * m, by push_cast; rfl, by omega, rfl⟩
  walk_at "seq"
  with_reducible refine' s_forR1 (Pv := (fun m σ' H' => ∃ a, σ' = [some v1, a] ∧ Own K G H' os)) ?hO63 ?he63 ?hn63 ?h063 ?hs63 ?hd63
  case hO63 => assumption
  case he63 => first | walk_at "ea" | walk_at "ev"
  case hn63 => exact ⟨by decide, by decide⟩
  case h063 => intro H' hO'; exact ⟨none, rfl, hO'⟩
  case hs63 =>
    intro m σ' H' hm ⟨a, hσ, hO'⟩
    subst hσ
    dsimp only [List.set]
    have := pr m hm
    walk_at "if1"
    · intro hb; simp at hb
    · intro _ _ _
      walk_at "st"
      exact ⟨_, rfl, ‹_›⟩
  case hd63 =>
    intro σ' H' ⟨a, hσ, hO'⟩
    subst hσ
    walk_at "st"
    rfl
end

/-! ## the head -/
section
variable {P : Program} {w : World} {K : PySem.W.Frag} {mg : Str → Option Value} {base : Heap}
theorem all_ok (B : Bi mg) (A_law_mix : At K mg "_law_mix" s_law_mix) (A_law_draws : At K mg "_law_draws" s_law_draws) (A_law_wide : At K mg "_law_wide" s_law_wide) (A_law_pieces : At K mg "_law_pieces" s_law_pieces) (A_law_cell : At K mg "_law_cell" s_law_cell) (A_law_far : At K mg "_law_far" s_law_far) (A_law_spots : At K mg "_law_spots" s_law_spots) (A_law_number : At K mg "_law_number" s_law_number) (A_law_equal : At K mg "_law_equal" s_law_equal) (A_mask_of : At K mg "mask_of" s_mask_of) (A_gather : At K mg "gather" s_gather) (A_spread : At K mg "spread" s_spread) (A_law_bit : At K mg "_law_bit" s_law_bit) (A_law_pieces_right : At K mg "_law_pieces_right" s_law_pieces_right) (A_byte_at : At K mg "byte_at" s_byte_at) (A_law_byte : At K mg "_law_byte" s_law_byte) (A_merge : At K mg "merge" s_merge) (A_full_cover : At K mg "full_cover" s_full_cover) (A_law_bytes_right : At K mg "_law_bytes_right" s_law_bytes_right) (A_wrap : At K mg "wrap" s_wrap) (A_signed : At K mg "signed" s_signed) (A_law_numbers_right : At K mg "_law_numbers_right" s_law_numbers_right) (A_law_round : At K mg "_law_round" s_law_round) (A_law : At K mg "law" s_law) : Fn P w K mg base "law" 5 ["script"] (Pr K P_law) := by
  have C_law_mix : Fn P w K mg base "_law_mix" 1 ["cell", "k"] (Pr K P_law_mix) := ok_law_mix B A_law_mix
  have C_law_draws : Fn P w K mg base "_law_draws" 2 ["cell", "count", "base"] (Pr K P_law_draws) := ok_law_draws B A_law_draws C_law_mix
  have C_law_wide : Fn P w K mg base "_law_wide" 2 ["cell", "bound"] (Pr K P_law_wide) := ok_law_wide B A_law_wide C_law_mix
  have C_law_pieces : Fn P w K mg base "_law_pieces" 3 ["cell"] (Pr K P_law_pieces) := ok_law_pieces B A_law_pieces C_law_draws
  have C_law_cell : Fn P w K mg base "_law_cell" 1 ["script", "k"] (Pr K P_law_cell) := ok_law_cell B A_law_cell
  have C_law_far : Fn P w K mg base "_law_far" 2 ["script", "k"] (Pr K P_law_far) := ok_law_far B A_law_far C_law_mix C_law_cell
  have C_law_spots : Fn P w K mg base "_law_spots" 1 ["pieces"] (Pr K P_law_spots) := ok_law_spots B A_law_spots
  have C_law_number : Fn P w K mg base "_law_number" 1 ["x"] (Pr K P_law_number) := ok_law_number B A_law_number
  have C_law_equal : Fn P w K mg base "_law_equal" 2 ["pairs"] (Pr K P_law_equal) := ok_law_equal B A_law_equal C_law_number
  have C_mask_of : Fn P w K mg base "mask_of" 1 ["low", "count"] (Pr K P_mask_of) := ok_mask_of B A_mask_of
  have C_gather : Fn P w K mg base "gather" 2 ["word", "pieces"] (Pr K P_gather) := ok_gather B A_gather C_mask_of
  have C_spread : Fn P w K mg base "spread" 2 ["value", "pieces"] (Pr K P_spread) := ok_spread B A_spread C_mask_of
  have C_law_bit : Fn P w K mg base "_law_bit" 1 ["number", "spot"] (Pr K P_law_bit) := ok_law_bit B A_law_bit
  have C_law_pieces_right : Fn P w K mg base "_law_pieces_right" 3 ["pieces", "word", "value"] (Pr K P_law_pieces_right) := ok_law_pieces_right B A_law_pieces_right C_law_spots C_law_equal C_gather C_spread C_law_bit
  have C_byte_at : Fn P w K mg base "byte_at" 1 ["value", "index"] (Pr K P_byte_at) := ok_byte_at B A_byte_at
  have C_law_byte : Fn P w K mg base "_law_byte" 1 ["number", "k"] (Pr K P_law_byte) := ok_law_byte B A_law_byte
  have C_merge : Fn P w K mg base "merge" 1 ["old", "new", "cover"] (Pr K P_merge) := ok_merge B A_merge
  have C_full_cover : Fn P w K mg base "full_cover" 1 ["width"] (Pr K P_full_cover) := ok_full_cover B A_full_cover
  have C_law_bytes_right : Fn P w K mg base "_law_bytes_right" 3 ["old", "new", "cover"] (Pr K P_law_bytes_right) := ok_law_bytes_right B A_law_bytes_right C_law_equal C_byte_at C_law_byte C_law_bit C_merge C_full_cover
  have C_wrap : Fn P w K mg base "wrap" 1 ["number", "width"] (Pr K P_wrap) := ok_wrap B A_wrap
  have C_signed : Fn P w K mg base "signed" 1 ["value", "width"] (Pr K P_signed) := ok_signed B A_signed
  have C_law_numbers_right : Fn P w K mg base "_law_numbers_right" 3 ["number", "width", "value"] (Pr K P_law_numbers_right) := ok_law_numbers_right B A_law_numbers_right C_law_equal C_wrap C_signed
  have C_law_round : Fn P w K mg base "_law_round" 4 ["script", "base"] (Pr K P_law_round) := ok_law_round B A_law_round C_law_draws C_law_wide C_law_pieces C_law_far C_law_pieces_right C_law_bytes_right C_law_numbers_right
  have C_law : Fn P w K mg base "law" 5 ["script"] (Pr K P_law) := ok_law B A_law C_law_round
  exact C_law
end
def d_law_mix : He.DefD := ⟨("_law_mix", none), "_law_mix", "_law_mix", defArgs s_law_mix, defBody s_law_mix, defScope s_law_mix, [], []⟩
def d_law_draws : He.DefD := ⟨("_law_draws", none), "_law_draws", "_law_draws", defArgs s_law_draws, defBody s_law_draws, defScope s_law_draws, [], []⟩
def d_law_wide : He.DefD := ⟨("_law_wide", none), "_law_wide", "_law_wide", defArgs s_law_wide, defBody s_law_wide, defScope s_law_wide, [], []⟩
def d_law_pieces : He.DefD := ⟨("_law_pieces", none), "_law_pieces", "_law_pieces", defArgs s_law_pieces, defBody s_law_pieces, defScope s_law_pieces, [], []⟩
def d_law_cell : He.DefD := ⟨("_law_cell", none), "_law_cell", "_law_cell", defArgs s_law_cell, defBody s_law_cell, defScope s_law_cell, [], []⟩
def d_law_far : He.DefD := ⟨("_law_far", none), "_law_far", "_law_far", defArgs s_law_far, defBody s_law_far, defScope s_law_far, [], []⟩
def d_law_spots : He.DefD := ⟨("_law_spots", none), "_law_spots", "_law_spots", defArgs s_law_spots, defBody s_law_spots, defScope s_law_spots, [], []⟩
def d_law_number : He.DefD := ⟨("_law_number", none), "_law_number", "_law_number", defArgs s_law_number, defBody s_law_number, defScope s_law_number, [], []⟩
def d_law_equal : He.DefD := ⟨("_law_equal", none), "_law_equal", "_law_equal", defArgs s_law_equal, defBody s_law_equal, defScope s_law_equal, [], []⟩
def d_mask_of : He.DefD := ⟨("mask_of", none), "mask_of", "mask_of", defArgs s_mask_of, defBody s_mask_of, defScope s_mask_of, [], []⟩
def d_gather : He.DefD := ⟨("gather", none), "gather", "gather", defArgs s_gather, defBody s_gather, defScope s_gather, [], []⟩
def d_spread : He.DefD := ⟨("spread", none), "spread", "spread", defArgs s_spread, defBody s_spread, defScope s_spread, [], []⟩
def d_law_bit : He.DefD := ⟨("_law_bit", none), "_law_bit", "_law_bit", defArgs s_law_bit, defBody s_law_bit, defScope s_law_bit, [], []⟩
def d_law_pieces_right : He.DefD := ⟨("_law_pieces_right", none), "_law_pieces_right", "_law_pieces_right", defArgs s_law_pieces_right, defBody s_law_pieces_right, defScope s_law_pieces_right, [], []⟩
def d_byte_at : He.DefD := ⟨("byte_at", none), "byte_at", "byte_at", defArgs s_byte_at, defBody s_byte_at, defScope s_byte_at, [], []⟩
def d_law_byte : He.DefD := ⟨("_law_byte", none), "_law_byte", "_law_byte", defArgs s_law_byte, defBody s_law_byte, defScope s_law_byte, [], []⟩
def d_merge : He.DefD := ⟨("merge", none), "merge", "merge", defArgs s_merge, defBody s_merge, defScope s_merge, [], []⟩
def d_full_cover : He.DefD := ⟨("full_cover", none), "full_cover", "full_cover", defArgs s_full_cover, defBody s_full_cover, defScope s_full_cover, [], []⟩
def d_law_bytes_right : He.DefD := ⟨("_law_bytes_right", none), "_law_bytes_right", "_law_bytes_right", defArgs s_law_bytes_right, defBody s_law_bytes_right, defScope s_law_bytes_right, [], []⟩
def d_wrap : He.DefD := ⟨("wrap", none), "wrap", "wrap", defArgs s_wrap, defBody s_wrap, defScope s_wrap, [], []⟩
def d_signed : He.DefD := ⟨("signed", none), "signed", "signed", defArgs s_signed, defBody s_signed, defScope s_signed, [], []⟩
def d_law_numbers_right : He.DefD := ⟨("_law_numbers_right", none), "_law_numbers_right", "_law_numbers_right", defArgs s_law_numbers_right, defBody s_law_numbers_right, defScope s_law_numbers_right, [], []⟩
def d_law_round : He.DefD := ⟨("_law_round", none), "_law_round", "_law_round", defArgs s_law_round, defBody s_law_round, defScope s_law_round, [], []⟩
def d_law : He.DefD := ⟨("law", none), "law", "law", defArgs s_law, defBody s_law, defScope s_law, [], []⟩
def fn : List He.DefD := [d_law_mix, d_law_draws, d_law_wide, d_law_pieces, d_law_cell, d_law_far, d_law_spots, d_law_number, d_law_equal, d_mask_of, d_gather, d_spread, d_law_bit, d_law_pieces_right, d_byte_at, d_law_byte, d_merge, d_full_cover, d_law_bytes_right, d_wrap, d_signed, d_law_numbers_right, d_law_round, d_law]
def fa : List He.Fa := [.glo "_law_mix", .glo "_law_draws", .glo "_law_wide", .glo "_law_pieces", .glo "_law_cell", .glo "_law_far", .glo "_law_spots", .glo "_law_number", .glo "_law_equal", .glo "mask_of", .glo "gather", .glo "spread", .glo "_law_bit", .glo "_law_pieces_right", .glo "byte_at", .glo "_law_byte", .glo "merge", .glo "full_cover", .glo "_law_bytes_right", .glo "wrap", .glo "signed", .glo "_law_numbers_right", .glo "_law_round", .glo "law", .free "abs", .free "bool", .free "int", .free "isinstance", .free "len", .free "min", .free "range", .free "sum", .free "tuple", .int "BYTE" 255]
def names0 : List Str := ["BYTE", "wrap", "signed", "mask_of", "gather", "spread", "byte_at", "merge", "full_cover", "_law_cell", "_law_mix", "_law_draws", "_law_far", "_law_wide", "_law_number", "_law_pieces", "_law_spots", "_law_bit", "_law_byte", "_law_equal", "_law_pieces_right", "_law_bytes_right", "_law_numbers_right", "_law_round"]
def names : List Str := names0
def STEPS : Nat := 2020
abbrev R : PySem.W.OpenRow := PySem.W.OpenLaw.row PySem.Challenge.rw_coremill_k00_pieces_and_bytes
abbrev hk : PySem.W.Hook := He.hookD 4 fa fn
def ob (s : PySem.W.SharedT) : He.AlD := He.obsDG 4 fa fn (HandSHeadRun.getT s)
theorem ob_eq (s : PySem.W.SharedT) : ob s = hk.obs s.abs := He.obsDG_eq (HandSHeadRun.getT_eq s)
theorem run (w : World) : HandSHeadRun.RunEq R (PySem.W.view R.prog [26]) hk ob STEPS names w := by
  intro os
  kernel_rfl
theorem at_of {K : PySem.W.Frag} {h : Heap} {mg : Str → Option Value} (X : K.In h) (G : h.Ns mainGlobals mg) (c : He.SaysD fa fn K) {i j : Nat} {x : Str} {st : Stmt} (h1 : fn[i]? = some ⟨(x, none), x, x, defArgs st, defBody st, defScope st, [], []⟩) (h2 : fa[j]? = some (.glo x)) : At K mg x st := by
  obtain ⟨fd, F⟩ := c.def_ i h1
  exact ⟨_, fd, F, He.glo_ok X G (c.fact j h2)⟩
theorem facts {P : Program} {w : World} {K : PySem.W.Frag} {h : Heap} {mg : Str → Option Value} {f : Addr} (X : K.In h) (G : h.Ns mainGlobals mg) (hfa : mg ("law" : Str) = some (.ref f)) (c : He.SaysD fa fn K) :
    ∃ fd : FuncData, (∀ (s : Shared) (v : Value), BindsTo s fd ⟨[v], []⟩ [("script", v)]) ∧ ∀ base : Heap, K.In base → base.Ns mainGlobals mg → FnOk P w K mg base CX0 5 f fd ["script"] (Pr K P_law) := by
  have B : Bi mg := ⟨He.free_ok X G (c.fact 24 (f := .free "abs") rfl), He.free_ok X G (c.fact 25 (f := .free "bool") rfl), He.free_ok X G (c.fact 26 (f := .free "int") rfl), He.free_ok X G (c.fact 27 (f := .free "isinstance") rfl), He.free_ok X G (c.fact 28 (f := .free "len") rfl), He.free_ok X G (c.fact 29 (f := .free "min") rfl), He.free_ok X G (c.fact 30 (f := .free "range") rfl), He.free_ok X G (c.fact 31 (f := .free "sum") rfl), He.free_ok X G (c.fact 32 (f := .free "tuple") rfl), He.int_ok X G (c.fact 33 (f := .int "BYTE" 255) rfl)⟩
  obtain ⟨fd, F⟩ := c.def_ 23 (d := d_law) rfl
  have e := hfa.symm.trans (He.glo_ok X G (c.fact 23 (f := .glo "law") rfl))
  cases e
  have b := FunD.bindsA (ps := ["script"]) F fun _ _ _ _ _ _ us hl => match us, hl with | [_], _ => rfl
  refine ⟨fd, fun s v => b s [v] rfl, fun base _ _ => ?_⟩
  exact (all_ok (P := P) (w := w) (base := base) B (at_of X G c (i := 0) (j := 0) rfl rfl) (at_of X G c (i := 1) (j := 1) rfl rfl) (at_of X G c (i := 2) (j := 2) rfl rfl) (at_of X G c (i := 3) (j := 3) rfl rfl) (at_of X G c (i := 4) (j := 4) rfl rfl) (at_of X G c (i := 5) (j := 5) rfl rfl) (at_of X G c (i := 6) (j := 6) rfl rfl) (at_of X G c (i := 7) (j := 7) rfl rfl) (at_of X G c (i := 8) (j := 8) rfl rfl) (at_of X G c (i := 9) (j := 9) rfl rfl) (at_of X G c (i := 10) (j := 10) rfl rfl) (at_of X G c (i := 11) (j := 11) rfl rfl) (at_of X G c (i := 12) (j := 12) rfl rfl) (at_of X G c (i := 13) (j := 13) rfl rfl) (at_of X G c (i := 14) (j := 14) rfl rfl) (at_of X G c (i := 15) (j := 15) rfl rfl) (at_of X G c (i := 16) (j := 16) rfl rfl) (at_of X G c (i := 17) (j := 17) rfl rfl) (at_of X G c (i := 18) (j := 18) rfl rfl) (at_of X G c (i := 19) (j := 19) rfl rfl) (at_of X G c (i := 20) (j := 20) rfl rfl) (at_of X G c (i := 21) (j := 21) rfl rfl) (at_of X G c (i := 22) (j := 22) rfl rfl) (at_of X G c (i := 23) (j := 23) rfl rfl)).at_ (st := s_law) F hfa
end Rk00
open PySem PySem.W PySem.Calls PyProof.Rows
theorem PySem.Challenge.cw_coremill_k00_pieces_and_bytes_holds : PySem.Challenge.rw_coremill_k00_pieces_and_bytes.Holds := by
  w_on; o_law
  refine HandSHeadRun.head_any (r := OpenLaw.row PySem.Challenge.rw_coremill_k00_pieces_and_bytes) (q := view (OpenLaw.row PySem.Challenge.rw_coremill_k00_pieces_and_bytes).prog [26]) (H := Rk00.hk) (ob := Rk00.ob) (M := Rk00.STEPS) (loose := Rk00.names) (d := HandSHeadRun.topDef (OpenLaw.row PySem.Challenge.rw_coremill_k00_pieces_and_bytes).prog 26) (kwd := []) Rk00.ob_eq
    (by kernel_rfl) (fun s => by kernel_rfl) Rk00.run (by kernel_rfl) (by kernel_rfl) (by kernel_rfl) (by rfl) (by first | assumption | decide +kernel) (by decide +kernel) ⟨rfl, rfl, rfl, rfl, rfl, by decide +kernel⟩ ?hw ?hc
  case hw => w_witness2
  case hc =>
    refine L2.walk_ofE (l := PySem.Challenge.rw_coremill_k00_pieces_and_bytes) (n := 63) (k := 5) (x := "script") (CX := L2.CX0) rfl (by decide) (by kernel_rfl) ⟨rfl, by decide, by decide⟩ ?F (fun _ _ _ _ z => z)
    intro w mg fa h Y G hmg0
    obtain ⟨K, KX, c⟩ := Y
    have hmg : mg ("law" : PySem.Str) = some (.ref fa) := by
      have e : (HandSHeadRun.topDef (OpenLaw.row PySem.Challenge.rw_coremill_k00_pieces_and_bytes).prog 26).name = ("law" : PySem.Str) := by kernel_rfl
      rw [← e]
      exact hmg0
    obtain ⟨fd, hb, hF⟩ := Rk00.facts (P := (PySem.Challenge.rw_coremill_k00_pieces_and_bytes).prog) (w := w) KX G hmg c
    exact ⟨K, fd, Cm.Pr K Rk00.P_law, KX, hb, fun H a ns hl _ hS => ⟨H, [], [.lst (ns.map .int)], .bl true, .start, .one (.lst hS (Cm.IsA.ints ns)), ⟨ns, rfl, hl, rfl⟩, fun v G' H' _ _ hv => hv.bl_inv⟩, hF⟩
#print axioms PySem.Challenge.cw_coremill_k00_pieces_and_bytes_holds
