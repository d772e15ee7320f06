import PyProof.Rows.All
import Wide.All
import OpenK.AllK
import Wide.FinOn
import HandS.Base
import HandS.Call
import HandS.List
import HandS.Comp
import HandS.Ends
import HandS.More
import HandS.Evl
import HandS.Wide
import HandS.WideBits
import HandS.IsInst
import HandS.Words
import HandS.WordsList
import HandS.Defaults
import HandS.Iter
import HandS.Dict
import HandS.Text
import HandS.TupAny
import HandS.HeadHook1
import HandS.HeadHook2
import HandS.Head0
import HandS.Head1
import HandS.Head2
import HandS.HeadEnd
import PySem.Challenge.RW_coremill_k20_kept_pairs
set_option Elab.async false
set_option linter.all false
set_option maxRecDepth 100000
set_option maxHeartbeats 4000000
namespace Cm
open PySem PySem.Spec PyProof.Rows L2 Evl

/-! ## data: what a value stands for -/
inductive D where
  | non | bl (b : Bool) | int (i : Int) | str (s : Str) | raw (a : Addr) | ty (n : String)
  | lst (ds : List D) | frl (ds : List D) | tup (ds : List D) | ins (C : Addr) (fs : List (Str × D)) | dct (ds : List (Key × D))

mutual
inductive Is (K : PySem.W.Frag) (H : Hp) : V → D → Prop
  | non : Is K H .non .non
  | bl (b : Bool) : Is K H (.bl b) (.bl b)
  | int (i : Int) : Is K H (.int i) (.int i)
  | str (x : Str) : Is K H (.str x) (.str x)
  | raw (a : Addr) : Is K H (.ref a) (.raw a)
  | ty (n : String) : Is K H (.ty n) (.ty n)
  | lst {a : Addr} {xs : List V} {ds : List D} : H a = some (.lst xs) → IsA K H xs ds → Is K H (.ref a) (.lst ds)
  | frl {a : Addr} {xs : List V} {ds : List D} : SqL K H a xs → IsA K H xs ds → Is K H (.ref a) (.frl ds)
  | tup {a : Addr} {xs : List V} {ds : List D} : SqT K H a xs → IsA K H xs ds → Is K H (.ref a) (.tup ds)
  | ins {a C dx : Addr} {xs : List (Str × V)} {ds : List (Str × D)} : H a = some (.ins C dx xs) → IsF K H xs ds → Is K H (.ref a) (.ins C ds)
  | dct {a : Addr} {xs : List (Key × V)} {ds : List (Key × D)} : H a = some (.dK xs) → IsK K H xs ds → Is K H (.ref a) (.dct ds)
inductive IsA (K : PySem.W.Frag) (H : Hp) : List V → List D → Prop
  | nil : IsA K H [] []
  | cons {v : V} {vs : List V} {d : D} {ds : List D} : Is K H v d → IsA K H vs ds → IsA K H (v :: vs) (d :: ds)
inductive IsF (K : PySem.W.Frag) (H : Hp) : List (Str × V) → List (Str × D) → Prop
  | nil : IsF K H [] []
  | cons {f : Str} {v : V} {vs : List (Str × V)} {d : D} {ds : List (Str × D)} : Is K H v d → IsF K H vs ds → IsF K H ((f, v) :: vs) ((f, d) :: ds)
inductive IsK (K : PySem.W.Frag) (H : Hp) : List (Key × V) → List (Key × D) → Prop
  | nil : IsK K H [] []
  | cons {f : Key} {v : V} {vs : List (Key × V)} {d : D} {ds : List (Key × D)} : Is K H v d → IsK K H vs ds → IsK K H ((f, v) :: vs) ((f, d) :: ds)
end

section
variable {K : PySem.W.Frag} {G H H' : Hp}
mutual
theorem Is.mono (e : Ex H H') : ∀ {v : V} {d : D}, Is K H v d → Is K H' v d
  | _, _, .non => .non
  | _, _, .bl b => .bl b
  | _, _, .int i => .int i
  | _, _, .str x => .str x
  | _, _, .raw a => .raw a
  | _, _, .ty n => .ty n
  | _, _, .lst h k => .lst (e _ _ h) (IsA.mono e k)
  | _, _, .frl h k => .frl (ex_l e h) (IsA.mono e k)
  | _, _, .tup h k => .tup (ex_t e h) (IsA.mono e k)
  | _, _, .ins h k => .ins (e _ _ h) (IsF.mono e k)
  | _, _, .dct h k => .dct (e _ _ h) (IsK.mono e k)
theorem IsA.mono (e : Ex H H') : ∀ {v : List V} {d : List D}, IsA K H v d → IsA K H' v d
  | _, _, .nil => .nil
  | _, _, .cons h k => .cons (Is.mono e h) (IsA.mono e k)
theorem IsF.mono (e : Ex H H') : ∀ {v : List (Str × V)} {d : List (Str × D)}, IsF K H v d → IsF K H' v d
  | _, _, .nil => .nil
  | _, _, .cons h k => .cons (Is.mono e h) (IsF.mono e k)
theorem IsK.mono (e : Ex H H') : ∀ {v : List (Key × V)} {d : List (Key × D)}, IsK K H v d → IsK K H' v d
  | _, _, .nil => .nil
  | _, _, .cons h k => .cons (Is.mono e h) (IsK.mono e k)
end
theorem IsA.length : ∀ {v : List V} {d : List D}, IsA K H v d → v.length = d.length
  | _, _, .nil => rfl
  | _, _, .cons _ k => congrArg (· + 1) (IsA.length k)
theorem IsA.get : ∀ {v : List V} {d : List D} {i : Nat} {x : D}, IsA K H v d → d[i]? = some x → ∃ u, v[i]? = some u ∧ Is K H u x
  | _, _, _, _, .nil, e => by simp at e
  | _, _, 0, _, .cons h _, e => by simp at e; subst e; exact ⟨_, rfl, h⟩
  | _, _, i + 1, _, .cons _ k, e => by
    obtain ⟨u, h1, h2⟩ := IsA.get (i := i) k (by simpa using e)
    exact ⟨u, by simpa using h1, h2⟩
theorem IsA.getV : ∀ {v : List V} {d : List D} {i : Nat} {u : V}, IsA K H v d → v[i]? = some u → ∃ x, d[i]? = some x ∧ Is K H u x
  | _, _, _, _, .nil, e => by simp at e
  | _, _, 0, _, .cons h _, e => by simp at e; subst e; exact ⟨_, rfl, h⟩
  | _, _, i + 1, _, .cons _ k, e => by
    obtain ⟨u, h1, h2⟩ := IsA.getV (i := i) k (by simpa using e)
    exact ⟨u, by simpa using h1, h2⟩
theorem IsA.append : ∀ {v w : List V} {d e : List D}, IsA K H v d → IsA K H w e → IsA K H (v ++ w) (d ++ e)
  | _, _, _, _, .nil, h => h
  | _, _, _, _, .cons h k, h' => .cons h (IsA.append k h')
theorem IsA.one {v : V} {d : D} (h : Is K H v d) : IsA K H [v] [d] := .cons h .nil
theorem IsA.snoc {vs : List V} {ds : List D} {v : V} {d : D} (h : IsA K H vs ds) (k : Is K H v d) : IsA K H (vs ++ [v]) (ds ++ [d]) := h.append (.one k)
theorem IsA.take : ∀ {v : List V} {d : List D} (n : Nat), IsA K H v d → IsA K H (v.take n) (d.take n)
  | _, _, 0, _ => .nil
  | _, _, _ + 1, .nil => .nil
  | _, _, n + 1, .cons h k => .cons h (IsA.take n k)
theorem IsA.drop : ∀ {v : List V} {d : List D} (n : Nat), IsA K H v d → IsA K H (v.drop n) (d.drop n)
  | _, _, 0, h => h
  | _, _, _ + 1, .nil => .nil
  | _, _, n + 1, .cons _ k => IsA.drop n k
theorem IsA.set {u : V} {x : D} (hu : Is K H u x) : ∀ {v : List V} {d : List D} (n : Nat), IsA K H v d → IsA K H (v.set n u) (d.set n x)
  | _, _, _, .nil => .nil
  | _, _, 0, .cons _ k => .cons hu k
  | _, _, n + 1, .cons h k => .cons h (IsA.set hu n k)
theorem IsA.ints : ∀ (ns : List Int), IsA K H (ns.map V.int) (ns.map D.int)
  | [] => .nil
  | n :: r => .cons (.int n) (IsA.ints r)
theorem IsA.toInts : ∀ {v : List V} {ns : List Int}, IsA K H v (ns.map D.int) → v = ns.map V.int
  | _, [], .nil => rfl
  | _, n :: r, .cons h k => by
    cases h
    rw [IsA.toInts k, List.map_cons]
theorem IsA.strs : ∀ (ns : List Str), IsA K H (ns.map V.str) (ns.map D.str)
  | [] => .nil
  | n :: r => .cons (.str n) (IsA.strs r)
theorem IsA.toStrs : ∀ {v : List V} {ns : List Str}, IsA K H v (ns.map D.str) → v = ns.map V.str
  | _, [], .nil => rfl
  | _, n :: r, .cons h k => by
    cases h
    rw [IsA.toStrs k, List.map_cons]
theorem IsA.cons_inv {vs : List V} {d : D} {ds : List D} (h : IsA K H vs (d :: ds)) : ∃ v r, vs = v :: r ∧ Is K H v d ∧ IsA K H r ds := by
  cases h with
  | cons h k => exact ⟨_, _, rfl, h, k⟩
theorem IsA.nil_inv {vs : List V} (h : IsA K H vs []) : vs = [] := by cases h; rfl
theorem Is.int_inv {v : V} {i : Int} (h : Is K H v (.int i)) : v = .int i := by cases h; rfl
theorem Is.bl_inv {v : V} {b : Bool} (h : Is K H v (.bl b)) : v = .bl b := by cases h; rfl
theorem Is.str_inv {v : V} {b : Str} (h : Is K H v (.str b)) : v = .str b := by cases h; rfl
theorem Is.non_inv {v : V} (h : Is K H v .non) : v = .non := by cases h; rfl
theorem Is.lst_inv {v : V} {ds : List D} (h : Is K H v (.lst ds)) : ∃ a xs, v = .ref a ∧ H a = some (.lst xs) ∧ IsA K H xs ds := by
  cases h with
  | lst h k => exact ⟨_, _, rfl, h, k⟩
theorem Is.frl_inv {v : V} {ds : List D} (h : Is K H v (.frl ds)) : ∃ a xs, v = .ref a ∧ SqL K H a xs ∧ IsA K H xs ds := by
  cases h with
  | frl h k => exact ⟨_, _, rfl, h, k⟩
theorem Is.tup_inv {v : V} {ds : List D} (h : Is K H v (.tup ds)) : ∃ a xs, v = .ref a ∧ SqT K H a xs ∧ IsA K H xs ds := by
  cases h with
  | tup h k => exact ⟨_, _, rfl, h, k⟩
end

/-! ## the base, and what is owned beside it -/
structure Own (K : PySem.W.Frag) (G H : Hp) (os : List (Addr × HO)) : Prop where
  ex : Ex G H
  at_ : ∀ p ∈ os, H p.1 = some p.2
  out : ∀ p ∈ os, G p.1 = none
  nd : (os.map (·.1)).Nodup

section
variable {K : PySem.W.Frag} {G G' H H' : Hp} {os : List (Addr × HO)} {l : Addr} {o : HO}
theorem Own.start {H : Hp} : Own K H H [] := ⟨Ex.refl H, fun _ h => by simp at h, fun _ h => by simp at h, List.nodup_nil⟩
/-- a smaller base -/
theorem Own.weak (h : Own K G' H os) (e : Ex G G') : Own K G H os := ⟨e.trans h.ex, h.at_, fun p hp => fresh_back e (h.out p hp), h.nd⟩
/-- a new object joins the base -/
theorem Own.new (h : Own K G H os) (hn : H l = none) : Own K (upd G l o) (upd H l o) os := by
  refine ⟨fun a u e => ?_, fun p hp => ?_, fun p hp => ?_, h.nd⟩
  · by_cases q : a = l
    · subst q; rw [upd_same] at e ⊢; exact e
    · rw [upd_ne q] at e ⊢; exact h.ex a u e
  · rw [upd_ne (ne_of_none (h.at_ p hp) hn)]; exact h.at_ p hp
  · rw [upd_ne (ne_of_none (h.at_ p hp) hn)]; exact h.out p hp
theorem Own.freshG (h : Own K G H os) (hn : H l = none) : G l = none := fresh_back h.ex hn
theorem Own.newEx (h : Own K G H os) (hn : H l = none) : Ex G (upd G l o) := Ex.new (h.freshG hn)
/-- a new object is owned -/
theorem Own.add (h : Own K G H os) (hn : H l = none) : Own K G (upd H l o) ((l, o) :: os) := by
  refine ⟨h.ex.trans (Ex.new hn), fun p hp => ?_, fun p hp => ?_, ?_⟩
  · rcases List.mem_cons.mp hp with q | q
    · subst q; exact upd_same
    · rw [upd_ne (ne_of_none (h.at_ p q) hn)]; exact h.at_ p q
  · rcases List.mem_cons.mp hp with q | q
    · subst q; exact h.freshG hn
    · exact h.out p q
  · rw [List.map_cons, List.nodup_cons]
    refine ⟨fun q => ?_, h.nd⟩
    obtain ⟨p, hp, e⟩ := List.mem_map.mp q
    have := h.at_ p hp
    rw [e, hn] at this
    cases this
/-- an owned object joins the base -/
theorem Own.freeze (h : Own K G H ((l, o) :: os)) : Own K (upd G l o) H os := by
  have nd := h.nd
  rw [List.map_cons, List.nodup_cons] at nd
  refine ⟨fun a u e => ?_, fun p hp => h.at_ p (List.mem_cons_of_mem _ hp), fun p hp => ?_, nd.2⟩
  · by_cases q : a = l
    · subst q; rw [upd_same] at e; cases e; exact h.at_ (a, o) (List.mem_cons_self ..)
    · rw [upd_ne q] at e; exact h.ex a u e
  · have q : p.1 ≠ l := fun e => nd.1 (List.mem_map.mpr ⟨p, hp, e⟩)
    rw [upd_ne q]; exact h.out p (List.mem_cons_of_mem _ hp)
theorem Own.freezeEx (h : Own K G H ((l, o) :: os)) : Ex G (upd G l o) := Ex.new (h.out (l, o) (List.mem_cons_self ..))
/-- an owned object is forgotten -/
theorem Own.drop {p : Addr × HO} (h : Own K G H (p :: os)) : Own K G H os := by
  have nd := h.nd
  rw [List.map_cons, List.nodup_cons] at nd
  exact ⟨h.ex, fun p hp => h.at_ p (List.mem_cons_of_mem _ hp), fun p hp => h.out p (List.mem_cons_of_mem _ hp), nd.2⟩
theorem Own.dropN {qs : List (Addr × HO)} (h : Own K G H (qs ++ os)) : Own K G H os := by
  induction qs with
  | nil => exact h
  | cons p r ih => exact ih h.drop
theorem Own.perm {os' : List (Addr × HO)} (h : Own K G H os) (p : os.Perm os') : Own K G H os' :=
  ⟨h.ex, fun q hq => h.at_ q (p.mem_iff.mpr hq), fun q hq => h.out q (p.mem_iff.mpr hq), (p.map _).nodup_iff.mp h.nd⟩
theorem Own.swap {p q : Addr × HO} (h : Own K G H (p :: q :: os)) : Own K G H (q :: p :: os) := h.perm (List.Perm.swap ..)
/-- a frozen one is owned again (nothing but flat things has been made) -/
theorem Own.thaw (h : Own K (upd G l o) H os) (hn : G l = none) : Own K G H ((l, o) :: os) := by
  refine ⟨(Ex.new hn).trans h.ex, fun p hp => ?_, fun p hp => ?_, ?_⟩
  · rcases List.mem_cons.mp hp with q | q
    · subst q; exact h.ex _ _ upd_same
    · exact h.at_ p q
  · rcases List.mem_cons.mp hp with q | q
    · subst q; exact hn
    · exact fresh_back (Ex.new hn) (h.out p q)
  · rw [List.map_cons, List.nodup_cons]
    refine ⟨fun q => ?_, h.nd⟩
    obtain ⟨p, hp, e⟩ := List.mem_map.mp q
    have := h.out p hp
    rw [e, upd_same] at this
    cases this
/-- an owned object is changed -/
theorem Own.put0 {o' : HO} (h : Own K G H ((l, o) :: os)) : Own K G (upd H l o') ((l, o') :: os) := by
  have nd := h.nd
  rw [List.map_cons, List.nodup_cons] at nd
  refine ⟨h.ex.mut (h.out (l, o) (List.mem_cons_self ..)), fun p hp => ?_, fun p hp => ?_, h.nd⟩
  · rcases List.mem_cons.mp hp with q | q
    · subst q; exact upd_same
    · have z : p.1 ≠ l := fun e => nd.1 (List.mem_map.mpr ⟨p, q, e⟩)
      rw [upd_ne z]; exact h.at_ p (List.mem_cons_of_mem _ q)
  · rcases List.mem_cons.mp hp with q | q
    · subst q; exact h.out (l, o) (List.mem_cons_self ..)
    · exact h.out p (List.mem_cons_of_mem _ q)
theorem Own.put1 {o' : HO} {p : Addr × HO} (h : Own K G H (p :: (l, o) :: os)) : Own K G (upd H l o') (p :: (l, o') :: os) := (h.swap.put0 (o' := o')).swap
theorem Own.put {o' : HO} (h : Own K G H os) {j : Nat} (hj : os[j]? = some (l, o)) : Own K G (upd H l o') (os.set j (l, o')) := by
  induction os generalizing j with
  | nil => simp at hj
  | cons p r ih =>
    cases j with
    | zero =>
      simp at hj; subst hj
      exact h.put0
    | succ j =>
      have hj' : r[j]? = some (l, o) := by simpa using hj
      have k := ih h.drop hj'
      have nd := h.nd
      rw [List.map_cons, List.nodup_cons] at nd
      have z : p.1 ≠ l := fun e => nd.1 (by rw [e]; exact List.mem_map.mpr ⟨(l, o), List.mem_of_getElem? hj', rfl⟩)
      rw [List.set_cons_succ]
      refine ⟨k.ex, fun q hq => ?_, fun q hq => ?_, ?_⟩
      · rcases List.mem_cons.mp hq with e | e
        · subst e; rw [upd_ne z]; exact h.at_ q (List.mem_cons_self ..)
        · exact k.at_ q e
      · rcases List.mem_cons.mp hq with e | e
        · subst e; exact h.out q (List.mem_cons_self ..)
        · exact k.out q e
      · rw [List.map_cons, List.nodup_cons]
        refine ⟨fun q => nd.1 ?_, k.nd⟩
        obtain ⟨x, hx, e⟩ := List.mem_map.mp q
        rcases List.mem_or_eq_of_mem_set hx with y | y
        · rw [← e]; exact List.mem_map_of_mem y
        · subst y
          exact absurd e.symm z
theorem Own.here (h : Own K G H os) {j : Nat} (hj : os[j]? = some (l, o)) : H l = some o := h.at_ _ (List.mem_of_getElem? hj)
end

/-! ## evaluation -/
section
variable (K : PySem.W.Frag)
def EV (te : TE) (σ : L2.St) (G : Hp) (os : List (Addr × HO)) (d : D) : Prop :=
  ∀ G1, Ex G G1 → ∀ H, Own K G1 H os → ∀ Q : VK, (∀ v G' H', Ex G1 G' → Own K G' H' os → Is K G' v d → Q v H') → te σ H Q
def EA (ta : TA) (σ : L2.St) (G : Hp) (os : List (Addr × HO)) (ds : List D) : Prop :=
  ∀ G1, Ex G G1 → ∀ H, Own K G1 H os → ∀ Q : List V → Hp → Prop, (∀ v G' H', Ex G1 G' → Own K G' H' os → IsA K G' v ds → Q v H') → ta σ H Q
/-- a test (flat) -/
def ET (tt : TT) (σ : L2.St) (G : Hp) (os : List (Addr × HO)) (b : Bool) : Prop :=
  ∀ G1, Ex G G1 → ∀ H, Own K G1 H os → ∀ Q : Bool → Hp → Prop, (∀ H', Own K G1 H' os → Q b H') → tt σ H Q
/-- a two-place operation, a one-place one, a call of a built-in -/
def RB (r : R2) (x y z : D) : Prop := ∀ G H os v w, Own K G H os → Is K G v x → Is K G w y → ∀ Q : VK, (∀ u G' H', Ex G G' → Own K G' H' os → Is K G' u z → Q u H') → r v w H Q
def RU1 (r : V → Hp → VK → Prop) (x z : D) : Prop := ∀ G H os v, Own K G H os → Is K G v x → ∀ Q : VK, (∀ u G' H', Ex G G' → Own K G' H' os → Is K G' u z → Q u H') → r v H Q
def RC (r : List V → Hp → VK → Prop) (xs : List D) (z : D) : Prop := ∀ G H os vs, Own K G H os → IsA K G vs xs → ∀ Q : VK, (∀ u G' H', Ex G G' → Own K G' H' os → Is K G' u z → Q u H') → r vs H Q
end

section
variable {K : PySem.W.Frag} {σ : L2.St} {G G' H : Hp} {os : List (Addr × HO)} {ta tb te : TE} {t u : TT} {x y z d : D} {v : V} {r : R2}
theorem EV.mono (h : EV K te σ G os d) (e : Ex G G') : EV K te σ G' os d := fun G1 e1 => h G1 (e.trans e1)
theorem EA.mono {ta : TA} {ds : List D} (h : EA K ta σ G os ds) (e : Ex G G') : EA K ta σ G' os ds := fun G1 e1 => h G1 (e.trans e1)
theorem ev_var {i : Nat} (h : σ[i]? = some (some v)) (hv : Is K G v d) : EV K (tVar i) σ G os d := fun G1 e H hO _ q => ⟨v, h, q v G1 H (Ex.refl _) hO (hv.mono e)⟩
theorem ev_c (hv : ∀ G, Is K G v d) : EV K (tC v) σ G os d := fun G1 _ H hO _ q => q v G1 H (Ex.refl _) hO (hv _)
theorem ev_op (hr : RB K r x y z) (ha : EV K ta σ G os x) (hb : EV K tb σ G os y) : EV K (tOp r ta tb) σ G os z := fun G1 e H hO _ q =>
  ha G1 e H hO _ fun v G2 H2 e2 hO2 hv => hb G2 (e.trans e2) H2 hO2 _ fun w G3 H3 e3 hO3 hw => hr G3 H3 os v w hO3 (hv.mono e3) hw _ fun u G4 H4 e4 hO4 hu => q u G4 H4 ((e2.trans e3).trans e4) hO4 hu
theorem ev_un {r : V → Hp → VK → Prop} (hr : RU1 K r x z) (ha : EV K ta σ G os x) : EV K (tUn r ta) σ G os z := fun G1 e H hO _ q =>
  ha G1 e H hO _ fun v G2 H2 e2 hO2 hv => hr G2 H2 os v hO2 hv _ fun u G4 H4 e4 hO4 hu => q u G4 H4 (e2.trans e4) hO4 hu
theorem ea_nil : EA K tNil σ G os [] := fun G1 _ H hO _ q => q [] G1 H (Ex.refl _) hO .nil
theorem ea_cons {tr : TA} {ds : List D} (h : EV K ta σ G os x) (hr : EA K tr σ G os ds) : EA K (tCons ta tr) σ G os (x :: ds) := fun G1 e H hO _ q =>
  h G1 e H hO _ fun v G2 H2 e2 hO2 hv => hr G2 (e.trans e2) H2 hO2 _ fun w G3 H3 e3 hO3 hw => q _ G3 H3 (e2.trans e3) hO3 (.cons (hv.mono e3) hw)
theorem ev_cb {r : List V → Hp → VK → Prop} {ta : TA} {xs : List D} (hr : RC K r xs z) (ha : EA K ta σ G os xs) : EV K (tCB r ta) σ G os z := fun G1 e H hO _ q =>
  ha G1 e H hO _ fun v G2 H2 e2 hO2 hv => hr G2 H2 os v hO2 hv _ fun u G4 H4 e4 hO4 hu => q u G4 H4 (e2.trans e4) hO4 hu
theorem ev_is (h : EV K te σ G os d) (e : d = x) : EV K te σ G os x := e ▸ h
/-- displays -/
theorem ev_tup {ta : TA} {ds : List D} (h : EA K ta σ G os ds) (hz : ds.length ≤ 100000) : EV K (tTup ta) σ G os (.tup ds) := fun G1 e H hO _ q =>
  h G1 e H hO _ fun vs G2 H2 e2 hO2 hv => ⟨sz_of (by rw [hv.length]; exact hz), fun p hp => q (.ref p) (upd G2 p (.tup vs)) _ (e2.trans (hO2.newEx hp)) (hO2.new hp) (.tup (st_of upd_same) (hv.mono (hO2.newEx hp)))⟩
theorem ev_lst {ta : TA} {ds : List D} (h : EA K ta σ G os ds) (hz : ds.length ≤ 100000) : EV K (tLst ta) σ G os (.lst ds) := fun G1 e H hO _ q =>
  h G1 e H hO _ fun vs G2 H2 e2 hO2 hv => ⟨sz_of (by rw [hv.length]; exact hz), fun p hp => q (.ref p) (upd G2 p (.lst vs)) _ (e2.trans (hO2.newEx hp)) (hO2.new hp) (.lst upd_same (hv.mono (hO2.newEx hp)))⟩
/-- a flat value's rule -/
theorem rb_val {f : V} (hf : ∀ G, Is K G f z) (h : ∀ G H v w, Is K G v x → Is K G w y → Ex G H → ∀ Q : VK, Q f H → r v w H Q) : RB K r x y z := fun G H os v w hO hv hw Q q => h G H v w hv hw hO.ex Q (q f G H (Ex.refl _) hO (hf G))
theorem rb_ii {f : Int → Int → Int} {i j : Int} : RB K (rI0 fun i j => .int (f i j)) (.int i) (.int j) (.int (f i j)) := rb_val (fun _ => .int _) fun _ _ _ _ hv hw _ _ q => by
  cases hv; cases hw; exact ⟨i, j, rfl, rfl, q⟩
theorem rb_ib {f : Int → Int → Bool} {i j : Int} : RB K (rI0 fun i j => .bl (f i j)) (.int i) (.int j) (.bl (f i j)) := rb_val (fun _ => .bl _) fun _ _ _ _ hv hw _ _ q => by
  cases hv; cases hw; exact ⟨i, j, rfl, rfl, q⟩
theorem rb_ci {C : Int → Int → Prop} {f : Int → Int → Int} {i j : Int} (hc : C i j) : RB K (rI C fun i j => .int (f i j)) (.int i) (.int j) (.int (f i j)) := rb_val (fun _ => .int _) fun _ _ _ _ hv hw _ _ q => by
  cases hv; cases hw; exact ⟨i, j, rfl, rfl, hc, q⟩
theorem ru_i {f : Int → Int} {i : Int} : RU1 K (rU fun i => .int (f i)) (.int i) (.int (f i)) := fun G H os v hO hv Q q => by
  cases hv; exact ⟨i, rfl, q _ G H (Ex.refl _) hO (.int _)⟩
end

/-! ## more values -/
def flatD : D → Option V
  | .non => some .non
  | .bl b => some (.bl b)
  | .int i => some (.int i)
  | .str s => some (.str s)
  | .raw a => some (.ref a)
  | .ty n => some (.ty n)
  | _ => none
section
variable {K : PySem.W.Frag} {σ : L2.St} {G G' H : Hp} {os : List (Addr × HO)} {ta tb te : TE} {t u : TT} {x y z d : D} {v f : V} {r : R2}
theorem flat_inv (h : flatD d = some f) (k : Is K G v d) : v = f := by
  cases k <;> simp [flatD] at h <;> exact h
theorem flat_any (h : flatD d = some f) : Is K G f d := by
  cases d <;> simp [flatD] at h <;> subst h <;> constructor
/-- an owned list is read -/
theorem ev_own {l : Addr} {xs : List V} {ds : List D} (hx : IsA K G xs ds) (hf : flatD d = some f) (h : ∀ G', Ex G G' → Is K G' (.ref l) (.lst ds) → EV K te σ G' os d) : EV K te σ G ((l, .lst xs) :: os) d := fun G1 e H hO _ q => by
  have nl : G1 l = none := hO.out _ (List.mem_cons_self ..)
  have e1 : Ex G1 (upd G1 l (.lst xs)) := Ex.new nl
  refine h (upd G1 l (.lst xs)) (e.trans e1) (.lst upd_same (hx.mono (e.trans e1))) _ (Ex.refl _) H hO.freeze _ fun v G' H' e' hO' hv => ?_
  have := flat_inv hf hv
  subst this
  exact q _ G1 H' (Ex.refl _) ((hO'.weak e').thaw nl) (flat_any hf)
theorem ev_own1 {l : Addr} {xs : List V} {ds : List D} {p : Addr × HO} (hx : IsA K G xs ds) (hf : flatD d = some f) (h : ∀ G', Ex G G' → Is K G' (.ref l) (.lst ds) → EV K te σ G' (p :: os) d) : EV K te σ G (p :: (l, .lst xs) :: os) d := fun G1 e H hO Q q =>
  ev_own hx hf h G1 e H hO.swap Q fun v G' H' e' hO' hv => q v G' H' e' hO'.swap hv

/-! tests -/
theorem ET.mono {b : Bool} (h : ET K t σ G os b) (e : Ex G G') : ET K t σ G' os b := fun G1 e1 => h G1 (e.trans e1)
theorem et_tst {b : Bool} (h : EV K te σ G os (.bl b)) : ET K (tTest te) σ G os b := fun G1 e H hO _ q => h G1 e H hO _ fun v G' H' e hO' hv => by
  cases hv; exact ⟨b, rfl, q H' (hO'.weak e)⟩
theorem et_B {b : Bool} (h : EV K te σ G os (.bl b)) : ET K (tB te) σ G os b := fun G1 e H hO _ q => h G1 e H hO _ fun v G' H' e hO' hv => by
  cases hv; exact ⟨b, rfl, q H' (hO'.weak e)⟩
theorem et_not {a : Bool} (h : ET K t σ G os a) : ET K (tNot t) σ G os (!a) := fun G1 e H hO _ q => h G1 e H hO _ q
theorem et_and {a b : Bool} (h1 : ET K t σ G os a) (h2 : a = true → ET K u σ G os b) : ET K (tAnd t u) σ G os (a && b) := fun G1 e H hO Q q => h1 G1 e H hO _ fun H' hO' => by
  cases a with
  | true => exact iteT (h2 rfl G1 e H' hO' Q q)
  | false => exact iteF (q H' hO')
theorem et_or {a b : Bool} (h1 : ET K t σ G os a) (h2 : a = false → ET K u σ G os b) : ET K (tOr t u) σ G os (a || b) := fun G1 e H hO Q q => h1 G1 e H hO _ fun H' hO' => by
  cases a with
  | true => exact iteT (q H' hO')
  | false => exact iteF (h2 rfl G1 e H' hO' Q q)
theorem et_is {a b : Bool} (h : ET K t σ G os a) (e : a = b) : ET K t σ G os b := e ▸ h
theorem ev_notV {a : Bool} (h : EV K ta σ G os (.bl a)) : EV K (tNotV ta) σ G os (.bl (!a)) := fun G1 e H hO _ q => h G1 e H hO _ fun v G' H' e' hO' hv => by
  cases hv; exact ⟨a, rfl, q _ G' H' e' hO' (.bl _)⟩
theorem ev_andV {a b : Bool} (h1 : EV K ta σ G os (.bl a)) (h2 : a = true → EV K tb σ G os (.bl b)) : EV K (tAndV ta tb) σ G os (.bl (a && b)) := fun G1 e H hO Q q => h1 G1 e H hO _ fun v G' H' e' hO' hv => by
  cases hv
  refine ⟨a, rfl, ?_⟩
  cases a with
  | true => exact iteT (h2 rfl G' (e.trans e') H' hO' Q fun v G2 H2 e2 => q v G2 H2 (e'.trans e2))
  | false => exact iteF (q _ G' H' e' hO' (.bl _))
theorem ev_orV {a b : Bool} (h1 : EV K ta σ G os (.bl a)) (h2 : a = false → EV K tb σ G os (.bl b)) : EV K (tOrV ta tb) σ G os (.bl (a || b)) := fun G1 e H hO Q q => h1 G1 e H hO _ fun v G' H' e' hO' hv => by
  cases hv
  refine ⟨a, rfl, ?_⟩
  cases a with
  | true => exact iteT (q _ G' H' e' hO' (.bl _))
  | false => exact iteF (h2 rfl G' (e.trans e') H' hO' Q fun v G2 H2 e2 => q v G2 H2 (e'.trans e2))
/-- a if t else b -/
theorem ev_if {b : Bool} {d1 d2 : D} (h : ET K t σ G os b) (h1 : b = true → EV K ta σ G os d1) (h2 : b = false → EV K tb σ G os d2) : EV K (tIf t ta tb) σ G os (if b = true then d1 else d2) := fun G1 e H hO Q q => h G1 e H hO _ fun H' hO' => by
  cases b with
  | true => exact iteT (h1 rfl G1 e H' hO' Q fun v G2 H2 e2 hO2 hv => q v G2 H2 e2 hO2 hv)
  | false => exact iteF (h2 rfl G1 e H' hO' Q fun v G2 H2 e2 hO2 hv => q v G2 H2 e2 hO2 hv)
theorem ev_ifI {b : Bool} {i j : Int} (h : ET K t σ G os b) (h1 : b = true → EV K ta σ G os (.int i)) (h2 : b = false → EV K tb σ G os (.int j)) : EV K (tIf t ta tb) σ G os (.int (if b = true then i else j)) := ev_is (ev_if h h1 h2) (by cases b <;> rfl)

/-! operations -/
theorem rb_eqI {i j : Int} : RB K rEq (.int i) (.int j) (.bl (decide (i = j))) := rb_val (fun _ => .bl _) fun _ _ _ _ hv hw _ _ q => by
  cases hv; cases hw; exact ⟨rfl, by rw [show decide (V.int i = V.int j) = decide (i = j) by simp]; exact q⟩
theorem rb_neI {i j : Int} : RB K rNe (.int i) (.int j) (.bl (!decide (i = j))) := rb_val (fun _ => .bl _) fun _ _ _ _ hv hw _ _ q => by
  cases hv; cases hw; exact ⟨rfl, by rw [show decide (V.int i = V.int j) = decide (i = j) by simp]; exact q⟩
theorem rb_eqS {i j : Str} : RB K rEq (.str i) (.str j) (.bl (decide (i = j))) := rb_val (fun _ => .bl _) fun _ _ _ _ hv hw _ _ q => by
  cases hv; cases hw; exact ⟨rfl, by rw [show decide (V.str i = V.str j) = decide (i = j) by simp]; exact q⟩
theorem rb_neS {i j : Str} : RB K rNe (.str i) (.str j) (.bl (!decide (i = j))) := rb_val (fun _ => .bl _) fun _ _ _ _ hv hw _ _ q => by
  cases hv; cases hw; exact ⟨rfl, by rw [show decide (V.str i = V.str j) = decide (i = j) by simp]; exact q⟩
theorem rb_eqB {i j : Bool} : RB K rEq (.bl i) (.bl j) (.bl (decide (i = j))) := rb_val (fun _ => .bl _) fun _ _ _ _ hv hw _ _ q => by
  cases hv; cases hw; exact ⟨rfl, by rw [show decide (V.bl i = V.bl j) = decide (i = j) by simp]; exact q⟩
theorem rb_neB {i j : Bool} : RB K rNe (.bl i) (.bl j) (.bl (!decide (i = j))) := rb_val (fun _ => .bl _) fun _ _ _ _ hv hw _ _ q => by
  cases hv; cases hw; exact ⟨rfl, by rw [show decide (V.bl i = V.bl j) = decide (i = j) by simp]; exact q⟩
theorem atI_of {ds : List D} {xs : List V} {i : Int} {x : D} (h : IsA K G xs ds) (e : atI ds i = some x) : ∃ u, atI xs i = some u ∧ Is K G u x := by
  unfold atI at e ⊢
  rw [h.length]
  cases q : ixN ds.length i with
  | none => rw [q] at e; cases e
  | some j =>
    rw [q] at e
    exact h.get (show ds[j]? = some x from e)
theorem rb_ixL {ds : List D} {i : Int} (e : atI ds i = some x) : RB K (rIxL K) (.lst ds) (.int i) x := fun G H os v w hO hv hw Q q => by
  cases hw
  obtain ⟨a, xs, rfl, h, k⟩ := hv.lst_inv
  obtain ⟨u, hu, iu⟩ := atI_of k e
  exact ⟨a, xs, i, u, rfl, rfl, sq_of (hO.ex _ _ h), hu, q u G H (Ex.refl _) hO iu⟩
theorem rb_ixF {ds : List D} {i : Int} (e : atI ds i = some x) : RB K (rIxL K) (.frl ds) (.int i) x := fun G H os v w hO hv hw Q q => by
  cases hw
  obtain ⟨a, xs, rfl, h, k⟩ := hv.frl_inv
  obtain ⟨u, hu, iu⟩ := atI_of k e
  exact ⟨a, xs, i, u, rfl, rfl, ex_l hO.ex h, hu, q u G H (Ex.refl _) hO iu⟩
theorem rb_ixT {ds : List D} {i : Int} (e : atI ds i = some x) : RB K (rIxT K) (.tup ds) (.int i) x := fun G H os v w hO hv hw Q q => by
  cases hw
  obtain ⟨a, xs, rfl, h, k⟩ := hv.tup_inv
  obtain ⟨u, hu, iu⟩ := atI_of k e
  exact ⟨a, xs, i, u, rfl, rfl, ex_t hO.ex h, hu, q u G H (Ex.refl _) hO iu⟩
theorem atI_ints {ns : List Int} {i : Int} {z : Int} (h : 0 ≤ i) (e : ns[i.toNat]? = some z) : atI (ns.map D.int) i = some (.int z) := by
  obtain ⟨j, rfl⟩ := Int.eq_ofNat_of_zero_le h
  exact atI_nat (by rw [List.getElem?_map]; simp at e; rw [e]; rfl)
theorem atI_pos {ds : List D} {i : Int} {z : D} (h : 0 ≤ i) (e : ds[i.toNat]? = some z) : atI ds i = some z := by
  obtain ⟨j, rfl⟩ := Int.eq_ofNat_of_zero_le h
  exact atI_nat (by simpa using e)
abbrev rLenQ (K : PySem.W.Frag) : List V → Hp → VK → Prop := fun xs H Q => ∃ p ys, xs = [.ref p] ∧ (SqL K H p ys ∨ SqT K H p ys) ∧ Q (.int ys.length) H
theorem rc_lenL {ds : List D} : RC K (rLenQ K) [.lst ds] (.int ds.length) := fun G H os vs hO hv Q q => by
  cases hv with
  | cons h k =>
    cases k
    obtain ⟨a, xs, rfl, h, k⟩ := h.lst_inv
    exact ⟨a, xs, rfl, .inl (sq_of (hO.ex _ _ h)), by rw [k.length]; exact q _ G H (Ex.refl _) hO (.int _)⟩
theorem rc_lenF {ds : List D} : RC K (rLenQ K) [.frl ds] (.int ds.length) := fun G H os vs hO hv Q q => by
  cases hv with
  | cons h k =>
    cases k
    obtain ⟨a, xs, rfl, h, k⟩ := h.frl_inv
    exact ⟨a, xs, rfl, .inl (ex_l hO.ex h), by rw [k.length]; exact q _ G H (Ex.refl _) hO (.int _)⟩
theorem rc_lenT {ds : List D} : RC K (rLenQ K) [.tup ds] (.int ds.length) := fun G H os vs hO hv Q q => by
  cases hv with
  | cons h k =>
    cases k
    obtain ⟨a, xs, rfl, h, k⟩ := h.tup_inv
    exact ⟨a, xs, rfl, .inr (ex_t hO.ex h), by rw [k.length]; exact q _ G H (Ex.refl _) hO (.int _)⟩
theorem rc_tupL {ds : List D} : RC K (fun xs H Q => ∃ p ys, xs = [.ref p] ∧ ((SqL K H p ys ∧ ∀ l, H l = none → Q (.ref l) (upd H l (.tup ys))) ∨ (SqT K H p ys ∧ Q (.ref p) H))) [.lst ds] (.tup ds) := fun G H os vs hO hv Q q => by
  cases hv with
  | cons h k =>
    cases k
    obtain ⟨a, xs, rfl, h, k⟩ := h.lst_inv
    exact ⟨a, xs, rfl, .inl ⟨sq_of (hO.ex _ _ h), fun l hl => q _ (upd G l (.tup xs)) _ (hO.newEx hl) (hO.new hl) (.tup (st_of upd_same) (k.mono (hO.newEx hl)))⟩⟩
theorem rc_int {i : Int} : RC K (fun xs H Q => (∃ i, xs = [.int i] ∧ Q (.int i) H) ∨ ∃ k, xs = [.bl k] ∧ Q (.int (if k then 1 else 0)) H) [.int i] (.int i) := fun G H os vs hO hv Q q => by
  cases hv with
  | cons h k => cases k; cases h; exact .inl ⟨i, rfl, q _ G H (Ex.refl _) hO (.int _)⟩
theorem rc_abs {i : Int} : RC K (fun xs H Q => ∃ i, xs = [.int i] ∧ Q (.int (if i < 0 then -i else i)) H) [.int i] (.int (if i < 0 then -i else i)) := fun G H os vs hO hv Q q => by
  cases hv with
  | cons h k => cases k; cases h; exact ⟨i, rfl, q _ G H (Ex.refl _) hO (.int _)⟩
theorem rc_min2 {i j : Int} : RC K (fun xs H Q => ∃ i j, xs = [.int i, .int j] ∧ Q (.int (if j < i then j else i)) H) [.int i, .int j] (.int (if j < i then j else i)) := fun G H os vs hO hv Q q => by
  cases hv with
  | cons h k => cases h; cases k with
    | cons h k => cases h; cases k; exact ⟨i, j, rfl, q _ G H (Ex.refl _) hO (.int _)⟩
theorem rc_max2 {i j : Int} : RC K (fun xs H Q => ∃ i j, xs = [.int i, .int j] ∧ Q (.int (if j > i then j else i)) H) [.int i, .int j] (.int (if j > i then j else i)) := fun G H os vs hO hv Q q => by
  cases hv with
  | cons h k => cases h; cases k with
    | cons h k => cases h; cases k; exact ⟨i, j, rfl, q _ G H (Ex.refl _) hO (.int _)⟩
theorem rc_sum {ns : List Int} : RC K (rSum K) [.lst (ns.map D.int)] (.int ns.sum) := fun G H os vs hO hv Q q => by
  cases hv with
  | cons h k =>
    cases k
    obtain ⟨a, xs, rfl, h, k⟩ := h.lst_inv
    have := k.toInts
    subst this
    exact ⟨a, ns, rfl, sq_of (hO.ex _ _ h), q _ G H (Ex.refl _) hO (.int _)⟩
theorem rc_sumR {n : Nat} {g : Nat → Int} : RC K (rSum K) [.lst ((List.range n).map fun m => D.int (g m))] (.int ((List.range n).map g).sum) := by
  have h := rc_sum (K := K) (ns := (List.range n).map g)
  rw [List.map_map] at h
  exact h
/-- isinstance of flat values against a built-in class -/
theorem rc_isi {n m : String} {b : Bool} (hv : ∀ G H v, Is K G v x → Ex G H → TyX K H v (.type n)) (hb : PySem.W.kitOne K (.type n) (.type m) = some b) : RC K (rIsi K) [x, .ty m] (.bl b) := fun G H os vs hO hv' Q q => by
  cases hv' with
  | cons h k => cases k with
    | cons h2 k => cases h2; cases k; exact ⟨_, _, _, _, b, rfl, .ty m, hv G H _ h hO.ex, hb, q _ G H (Ex.refl _) hO (.bl _)⟩
theorem ev_bits {i : Int} (h : EV K te σ G os (.int i)) : EV K (tBits te) σ G os (.int (Builtin.Int.intBits i : Nat)) := fun G1 e H hO _ q => h G1 e H hO _ fun v G' H' e' hO' hv => by
  cases hv; exact ⟨i, rfl, q _ G' H' e' hO' (.int _)⟩
end

/-! ## one rule for lists, tuples and texts -/
/-- over a list, a tuple or a text -/
def iAny (K : PySem.W.Frag) (te : TE) : TI := fun σ H R => te σ H fun v H1 => (∃ a, v = .ref a ∧ (∃ xs, SqL K H1 a xs) ∧ R (Itl K a) H1) ∨ (∃ a, v = .ref a ∧ (∃ xs, SqT K H1 a xs) ∧ R (Itt K a) H1) ∨ (∃ x, v = .str x ∧ R (Its x) H1)
theorem pi_any {X : Cx} {tg e : Expr} {te : TE} (he : PE X e te) : PI X tg e (iAny X.K te) := by
  refine ⟨fun pins s σ H R I h => thn (he.run pins s σ H _ I h) fun v s1 ⟨y, H1, I1, r1, q⟩ => ?_⟩
  -- the value has come: as it stands it is the worth of a name
  have hx := q
  rcases q with ⟨a, rfl, ⟨xs, hq⟩, q⟩ | ⟨a, rfl, ⟨xs, hq⟩, q⟩ | ⟨x, rfl, q⟩
  · cases r1
    obtain ⟨its, rv, p, hz⟩ := I1.list hq
    refine wpAny_pyIter_list p.isList ?_
    refine ⟨s1.heap.objs.size, [s1.heap.objs.size], _, _, H1, rfl, I1.kept (t' := s1.toks) fun b o e => Heap.get?_push_of_some _ e, turn_list a _, ⟨_, Heap.get?_push_size _ rfl, rfl, rfl⟩, fun b hb => ?_, q⟩
    have e : b = s1.heap.objs.size := by simpa using hb
    subst e
    exact I1.fpOk (Nat.le_refl _) (I1.hok.fresh (Nat.le_refl _))
  · cases r1
    obtain ⟨its, rv, p, hz⟩ := I1.tuple hq
    refine wpAny_pyIter_tuple (show s1.heap.IsTuple a its.toArray from p) ?_
    refine ⟨s1.heap.objs.size, [s1.heap.objs.size], _, _, H1, rfl, I1.kept (t' := s1.toks) fun b o e => Heap.get?_push_of_some _ e, turn_tuple a _, ⟨_, Heap.get?_push_size _ rfl, rfl, rfl⟩, fun b hb => ?_, q⟩
    have e : b = s1.heap.objs.size := by simpa using hb
    subst e
    exact I1.fpOk (Nat.le_refl _) (I1.hok.fresh (Nat.le_refl _))
  · obtain ⟨t, rfl⟩ := r1
    cases ha : x.cps.all (· < 128)
    · exact wpAny_pyIter_wide ha (pi_one (tk := s1.toks) I1 _ (turn_str _ x t "str_iterator" (.inr rfl)) ⟨_, Heap.get?_push_size _ rfl, rfl, rfl⟩ q)
    · exact wpAny_pyIter_ascii ha (pi_one (tk := s1.toks) I1 _ (turn_str _ x t "str_ascii_iterator" (.inl rfl)) ⟨_, Heap.get?_push_size _ rfl, rfl, rfl⟩ q)

/-! ## statements -/
section
variable {K : PySem.W.Frag} {σ σ' : L2.St} {G G' G0 H : Hp} {os os0 os' : List (Addr × HO)} {ta tb te : TE} {t u w : TS} {tt : TT} {x y z d d0 : D} {v f : V} {r : R2} {Z : Ends} {i j : Nat} {b : Bool} {l : Addr} {xs : List V} {Q : VK}
theorem s_seq (h : t { Z with nx := u Z } σ H) : tSeq t u Z σ H := h
theorem s_asg (hO : Own K G H os) (h : EV K te σ G os d) (hσ : ∀ v, σ.set i (some v) = σ.set i (some v)) (k : ∀ v G' H', Ex G G' → Own K G' H' os → Is K G' v d → Z.nx (σ.set i (some v)) H') : tAsg te (gName i) Z σ H :=
  h G (Ex.refl _) H hO _ fun v G' H' e hO' hv => k v G' H' e hO' hv
/-- a flat value: the base stays -/
theorem s_asgF (hO : Own K G H os) (h : EV K te σ G os d) (hf : flatD d = some f) (hσ : σ.set i (some f) = σ') (k : ∀ H', Own K G H' os → Z.nx σ' H') : tAsg te (gName i) Z σ H :=
  h G (Ex.refl _) H hO _ fun v G' H' e hO' hv => by
    have := flat_inv hf hv
    subst this
    show Z.nx (σ.set i (some v)) H'
    rw [hσ]
    exact k H' (hO'.weak e)
theorem s_nx (h : Z.nx σ H) : tNext Z σ H := h
/-- an int, in the form one wants -/
theorem s_asgV {n : Int} (hO : Own K G H os) (h : EV K te σ G os d) (hd : d = .int n) (hσ : σ.set i (some (.int n)) = σ') (k : ∀ H', Own K G H' os → Z.nx σ' H') : tAsg te (gName i) Z σ H := by
  subst hd
  exact s_asgF hO h rfl hσ k
/-- a new list, owned -/
theorem s_asgN {ta : TA} {ds : List D} (hO : Own K G H os) (h : EA K ta σ G os ds) (hz : ds.length ≤ 100000) (k : ∀ l xs G' H', Ex G G' → Own K G' H' ((l, .lst xs) :: os) → IsA K G' xs ds → Z.nx (σ.set i (some (.ref l))) H') : tAsg (tLst ta) (gName i) Z σ H :=
  h G (Ex.refl _) H hO _ fun vs G' H' e hO' hv => ⟨sz_of (by rw [hv.length]; exact hz), fun p hp => k p vs G' _ e (hO'.add hp) hv⟩
theorem s_asgE (hO : Own K G H os) (k : ∀ l H', Own K G H' ((l, .lst []) :: os) → Z.nx (σ.set i (some (.ref l))) H') : tAsg (tLst tNil) (gName i) Z σ H :=
  ⟨Nat.zero_le _, fun p hp => k p _ (hO.add hp)⟩
theorem s_if (hO : Own K G H os) (h : ET K tt σ G os b) (h1 : b = true → ∀ H', Own K G H' os → t Z σ H') (h2 : b = false → ∀ H', Own K G H' os → u Z σ H') : tIfS tt t u Z σ H := h G (Ex.refl _) H hO _ fun H' hO' => by
  cases b with
  | true => exact iteT (h1 rfl H' hO')
  | false => exact iteF (h2 rfl H' hO')
/-- if c: x = e, an int at x -/
theorem s_ifI {a c : Int} (hx : σ[i]? = some (some (.int a))) (hO : Own K G H os) (h : ET K tt σ G os b) (h1 : b = true → EV K te σ G os (.int c)) (hσ : σ.set i (some (.int (if b = true then c else a))) = σ') (k : ∀ H', Own K G H' os → Z.nx σ' H') : tIfS tt (tAsg te (gName i)) tNext Z σ H :=
  s_if hO h (fun e H1 hO1 => s_asgF (d := .int c) hO1 (h1 e) rfl (by rw [if_pos e] at hσ; exact hσ) k) fun e H1 hO1 => by
    subst e
    have q : σ = σ' := by
      rw [← hσ, if_neg Bool.false_ne_true]
      obtain ⟨hl, he⟩ := List.getElem?_eq_some_iff.mp hx
      exact (by rw [← he, List.set_getElem_self])
    show Z.nx σ H1
    rw [q]
    exact k H1 hO1
/-- the same, the int in the form one wants -/
theorem s_ifV {a c n : Int} (hx : σ[i]? = some (some (.int a))) (hO : Own K G H os) (h : ET K tt σ G os b) (h1 : b = true → EV K te σ G os (.int c)) (hn : (if b = true then c else a) = n) (hσ : σ.set i (some (.int n)) = σ') (k : ∀ H', Own K G H' os → Z.nx σ' H') : tIfS tt (tAsg te (gName i)) tNext Z σ H := by
  subst hn
  exact s_ifI hx hO h h1 hσ k
theorem s_brk (h : Z.bk σ H) : tBreak Z σ H := h
theorem s_cont (h : Z.ct σ H) : tCont Z σ H := h
theorem s_cut {M : L2.St → Hp → Prop} (h : t { Z with nx := M } σ H) (k : ∀ σ' H', M σ' H' → u Z σ' H') : Evl.tCut t u Z σ H := ⟨M, h, k⟩
theorem s_ret (hO : Own K G H os) (h : EV K te σ G os d) (k : ∀ v G' H', Ex G G' → Own K G' H' os → Is K G' v d → Z.rt v H') : tRet te Z σ H :=
  h G (Ex.refl _) H hO _ fun v G' H' e hO' hv => k v G' H' e hO' hv
/-- return e, out of the def: ms what was owned here -/
theorem s_out {ms : List (Addr × HO)} (k : ∀ v G' H', Ex G0 G' → Own K G' H' os0 → Is K G' v d0 → Q v H') (hO : Own K G H (ms ++ os0)) (e : Ex G0 G) (hQ : Z.rt = Q) (h : EV K te σ G (ms ++ os0) d) (hd : d = d0) : tRet te Z σ H :=
  s_ret hO h fun v G' H' e' hO' hv => by subst hd; rw [hQ]; exact k v G' H' (e.trans e') hO'.dropN hv
/-- return l, an owned list -/
theorem s_outL {ms : List (Addr × HO)} {ds : List D} (k : ∀ v G' H', Ex G0 G' → Own K G' H' os0 → Is K G' v (.lst ds) → Q v H') (hO : Own K G H ((l, .lst xs) :: ms ++ os0)) (e : Ex G0 G) (hQ : Z.rt = Q) (hv : σ[i]? = some (some (.ref l))) (hx : IsA K G xs ds) : tRet (tVar i) Z σ H :=
  ⟨.ref l, hv, by
    rw [hQ]
    have e1 := hO.freezeEx
    exact k _ (upd G l (.lst xs)) H (e.trans e1) (hO.freeze.dropN) (.lst upd_same (hx.mono e1))⟩
theorem s_drop (hO : Own K G H os) (h : EV K te σ G os d) (k : ∀ H', Own K G H' os → Z.nx σ H') : tDrop te Z σ H := h G (Ex.refl _) H hO _ fun v G' H' e hO' _ => k H' (hO'.weak e)
/-- l.append(e) -/
theorem s_app (hO : Own K G H os) (hl : σ[i]? = some (some (.ref l))) (hj : os[j]? = some (l, .lst xs)) (hz : xs.length < 100000) (h : EV K te σ G os d)
    (k : ∀ v G' H', Ex G G' → Own K G' H' (os.set j (l, .lst (xs ++ [v]))) → Is K G' v d → Z.nx σ H') : tDrop (tBM K "list" rAppend (tVar i) (tCons te tNil)) Z σ H :=
  ⟨.ref l, hl, .inl ⟨rfl, _, sq_of (hO.here hj)⟩, h G (Ex.refl _) H hO _ fun v G' H' e hO' hv => ⟨l, xs, v, rfl, rfl, hO'.here hj, sz_lt hz, k v G' _ e (hO'.put hj) hv⟩⟩
theorem s_appF (hO : Own K G H os) (hl : σ[i]? = some (some (.ref l))) (hj : os[j]? = some (l, .lst xs)) (hz : xs.length < 100000) (h : EV K te σ G os d) (hf : flatD d = some f) (ho : os.set j (l, .lst (xs ++ [f])) = os')
    (k : ∀ H', Own K G H' os' → Z.nx σ H') : tDrop (tBM K "list" rAppend (tVar i) (tCons te tNil)) Z σ H :=
  s_app hO hl hj hz h fun v G' H' e hO' hv => by
    have := flat_inv hf hv
    subst this
    rw [ho] at hO'
    exact k H' (hO'.weak e)
/-- l.insert(n, e) -/
abbrev rInsQ : V → List V → Hp → VK → Prop := fun x vs H Q => ∃ (l : Addr) (xs : List V) (i : Int) (y : V), x = .ref l ∧ vs = [.int i, y] ∧ H l = some (.lst xs) ∧ xs.length < sizeLine ∧ 0 ≤ i ∧ i < 2 ^ 63 ∧
    Q .non (upd H l (.lst (xs.take i.toNat ++ [y] ++ xs.drop i.toNat)))
theorem s_ins {n : Int} (hO : Own K G H os) (hl : σ[i]? = some (some (.ref l))) (hj : os[j]? = some (l, .lst xs)) (hz : xs.length < 100000) (hn : EV K tb σ G os (.int n)) (h0 : 0 ≤ n ∧ n < 2 ^ 63) (h : EV K te σ G os d)
    (k : ∀ v G' H', Ex G G' → Own K G' H' (os.set j (l, .lst (xs.take n.toNat ++ [v] ++ xs.drop n.toNat))) → Is K G' v d → Z.nx σ H') : tDrop (tBM K "list" rInsQ (tVar i) (tCons tb (tCons te tNil))) Z σ H :=
  ⟨.ref l, hl, .inl ⟨rfl, _, sq_of (hO.here hj)⟩, hn G (Ex.refl _) H hO _ fun v1 G1 H1 e1 hO1 hv1 => h G1 e1 H1 hO1 _ fun v G' H' e hO' hv => by
    cases hv1
    exact ⟨l, xs, n, v, rfl, rfl, hO'.here hj, sz_lt hz, h0.1, h0.2, k v G' _ (e1.trans e) (hO'.put hj) hv⟩⟩

/-! loops -/
theorem s_forR1 {ta : TA} {n : Int} (hO : Own K G H os) (h : EA K ta σ G os [.int n]) (hn : -(2 ^ 62) ≤ n ∧ n < 2 ^ 62) (Pv : Nat → L2.St → Hp → Prop) (h0 : ∀ H', Own K G H' os → Pv 0 σ H')
    (hs : ∀ (m : Nat) σ' H', (m : Int) < n → Pv m σ' H' → t { Z with nx := Pv (m + 1), ct := Pv (m + 1), bk := Z.nx } (σ'.set j (some (.int (m : Int)))) H') (hd : ∀ σ' H', Pv n.toNat σ' H' → Z.nx σ' H') : tFor (iRng1 ta) (gName j) t Z σ H :=
  h G (Ex.refl _) H hO _ fun vs G' H' e hO' hv => by
    cases hv with
    | cons h1 h2 =>
      cases h1; cases h2
      refine ⟨n, rfl, hn.1, hn.2, for_range (lo := 0) (n := n.toNat) Pv (h0 H' (hO'.weak e)) (fun m σ1 H1 hm p => ?_) hd⟩
      have e0 : (0 : Int) + (m : Int) = (m : Int) := Int.zero_add _
      show t _ (σ1.set j (some (.int (0 + (m : Int))))) H1
      rw [e0]
      exact hs m σ1 H1 (by omega) p
theorem s_forR2 {ta : TA} {lo n : Int} (hO : Own K G H os) (h : EA K ta σ G os [.int lo, .int n]) (hn : -(2 ^ 62) ≤ lo ∧ lo < 2 ^ 62 ∧ -(2 ^ 62) ≤ n ∧ n < 2 ^ 62) (Pv : Nat → L2.St → Hp → Prop) (h0 : ∀ H', Own K G H' os → Pv 0 σ H')
    (hs : ∀ (m : Nat) σ' H', lo + (m : Int) < n → Pv m σ' H' → t { Z with nx := Pv (m + 1), ct := Pv (m + 1), bk := Z.nx } (σ'.set j (some (.int (lo + (m : Int))))) H') (hd : ∀ σ' H', Pv (n - lo).toNat σ' H' → Z.nx σ' H') : tFor (iRng2 ta) (gName j) t Z σ H :=
  h G (Ex.refl _) H hO _ fun vs G' H' e hO' hv => by
    cases hv with
    | cons h1 h2 =>
      cases h1
      cases h2 with
      | cons h3 h4 =>
        cases h3; cases h4
        exact ⟨lo, n, rfl, ⟨hn.1, hn.2.1, hn.2.2.1, hn.2.2.2⟩, for_range (lo := lo) (n := (n - lo).toNat) Pv (h0 H' (hO'.weak e)) (fun m σ1 H1 hm p => hs m σ1 H1 (by omega) p) hd⟩
/-- over a list, a tuple (data) -/
theorem s_forL {g : TG} {ds : List D} (hO : Own K G H os) (h : EV K te σ G os (.lst ds)) (Pv : Hp → Nat → L2.St → Hp → Prop) (h0 : ∀ G' H', Ex G G' → Own K G' H' os → Pv G' 0 σ H') (hl : ∀ G' m σ' H', Pv G' m σ' H' → Ex G' H')
    (hs : ∀ G' m x v σ' H', Ex G G' → ds[m]? = some x → Is K G' v x → Pv G' m σ' H' → g v σ' H' fun σ2 H2 => t { Z with nx := Pv G' (m + 1), ct := Pv G' (m + 1), bk := Z.nx } σ2 H2) (hd : ∀ G' σ' H', Ex G G' → Pv G' ds.length σ' H' → Z.nx σ' H') : tFor (iAny K te) g t Z σ H :=
  h G (Ex.refl _) H hO _ fun v G' H' e hO' hv => by
    obtain ⟨a, xs, rfl, hx, hk⟩ := hv.lst_inv
    refine .inl ⟨a, rfl, ⟨xs, sq_of (hO'.ex _ _ hx)⟩, for_list (K := K) (a := a) (xs := xs) (Pv G') (h0 G' H' e hO') (fun m σ1 H1 _ p => sq_of (hl G' m σ1 H1 p _ _ hx)) (fun m v1 σ1 H1 hm p => ?_) (fun σ1 H1 p => ?_)⟩
    · obtain ⟨x, hx, iv⟩ := hk.getV hm
      exact hs G' m x v1 σ1 H1 e hx iv p
    · rw [hk.length] at p
      exact hd G' σ1 H1 e p
theorem s_forT {g : TG} {ds : List D} (hO : Own K G H os) (h : EV K te σ G os (.tup ds)) (Pv : Hp → Nat → L2.St → Hp → Prop) (h0 : ∀ G' H', Ex G G' → Own K G' H' os → Pv G' 0 σ H') (hl : ∀ G' m σ' H', Pv G' m σ' H' → Ex G' H')
    (hs : ∀ G' m x v σ' H', Ex G G' → ds[m]? = some x → Is K G' v x → Pv G' m σ' H' → g v σ' H' fun σ2 H2 => t { Z with nx := Pv G' (m + 1), ct := Pv G' (m + 1), bk := Z.nx } σ2 H2) (hd : ∀ G' σ' H', Ex G G' → Pv G' ds.length σ' H' → Z.nx σ' H') : tFor (iAny K te) g t Z σ H :=
  h G (Ex.refl _) H hO _ fun v G' H' e hO' hv => by
    obtain ⟨a, xs, rfl, hx, hk⟩ := hv.tup_inv
    refine .inr <| .inl ⟨a, rfl, ⟨xs, ex_t hO'.ex hx⟩, for_tup (K := K) (a := a) (xs := xs) (Pv G') (h0 G' H' e hO') (fun m σ1 H1 _ p => ex_t (hl G' m σ1 H1 p) hx) (fun m v1 σ1 H1 hm p => ?_) (fun σ1 H1 p => ?_)⟩
    · obtain ⟨x, hx, iv⟩ := hk.getV hm
      exact hs G' m x v1 σ1 H1 e hx iv p
    · rw [hk.length] at p
      exact hd G' σ1 H1 e p
/-- a, b = a pair -/
theorem g_tup2 {n m : Nat} {R : L2.St → Hp → Prop} (hv : Is K G v (.tup [x, y])) (e : Ex G H) (k : ∀ v1 v2, Is K G v1 x → Is K G v2 y → R ((σ.set n (some v1)).set m (some v2)) H) : gTup K 2 (gCons (gName n) (gCons (gName m) gNil)) v σ H R := by
  obtain ⟨a, xs, rfl, hx, hk⟩ := hv.tup_inv
  cases hk with
  | cons h1 h2 => cases h2 with
    | cons h3 h4 =>
      cases h4
      exact ⟨a, _, rfl, ex_t e hx, rfl, _, _, rfl, _, _, rfl, rfl, k _ _ h1 h3⟩
end

/-! ## comprehensions -/
section
variable {K : PySem.W.Frag} {σ σ' : L2.St} {G G' G0 H : Hp} {os : List (Addr × HO)} {tl te : TE} {tt : TT} {d : D} {Z : Ends} {j : Nat} {vs : List Nat}
/-- what has been gathered: the list at Dl, its base -/
def Gat (K : PySem.W.Frag) (G1 : Hp) (os : List (Addr × HO)) (Dl : Addr) (ds : List D) (H' : Hp) : Prop := ∃ G' acc, Ex G1 G' ∧ Own K G' H' ((Dl, .lst acc) :: os) ∧ IsA K G' acc ds
theorem gat_turn {G1 H1 : Hp} {Dl : Addr} {ds : List D} {y : D} {σ2 : L2.St} (p : Gat K G1 os Dl ds H1) (hz : ds.length < 100000) (he : ∀ p : Addr × HO, EV K te σ2 G1 (p :: os) y) :
    te σ2 H1 fun v H4 => ∃ acc, H4 Dl = some (.lst acc) ∧ acc.length < sizeLine ∧ Gat K G1 os Dl (ds ++ [y]) (upd H4 Dl (.lst (acc ++ [v]))) := by
  obtain ⟨G', acc, e, hO, ha⟩ := p
  refine he _ G' e H1 hO _ fun v G2 H2 e2 hO2 hv => ⟨acc, hO2.here (j := 0) rfl, sz_lt (by rw [ha.length]; exact hz), G2, acc ++ [v], e.trans e2, hO2.put0, (ha.mono e2).snoc hv⟩
theorem gat_skip {G1 H1 : Hp} {Dl : Addr} {ds : List D} (p : Gat K G1 os Dl ds H1) (R : Hp → Prop) (h : ∀ H2, Gat K G1 os Dl ds H2 → R H2) : R H1 := h _ p
/-- evaluates to a new list, owned -/
def EN (K : PySem.W.Frag) (te : TE) (σ : L2.St) (G : Hp) (os : List (Addr × HO)) (ds : List D) : Prop :=
  ∀ G1, Ex G G1 → ∀ H, Own K G1 H os → ∀ Q : VK, (∀ l xs G' H', Ex G1 G' → Own K G' H' ((l, .lst xs) :: os) → IsA K G' xs ds → Q (.ref l) H') → te σ H Q
theorem EN.mono {ds : List D} (h : EN K te σ G os ds) (e : Ex G G') : EN K te σ G' os ds := fun G1 e1 => h G1 (e.trans e1)
theorem ev_new {ds : List D} (h : EN K te σ G os ds) : EV K te σ G os (.lst ds) := fun G1 e H hO Q q =>
  h G1 e H hO Q fun l xs G' H' e' hO' hx => q _ _ H' (e'.trans hO'.freezeEx) hO'.freeze (.lst upd_same (hx.mono hO'.freezeEx))
theorem en_lst {ta : TA} {ds : List D} (h : EA K ta σ G os ds) (hz : ds.length ≤ 100000) : EN K (tLst ta) σ G os ds := fun G1 e H hO _ q =>
  h G1 e H hO _ fun vs G2 H2 e2 hO2 hv => ⟨sz_of (by rw [hv.length]; exact hz), fun p hp => q p vs G2 _ e2 (hO2.add hp) hv⟩
/-- x = e, a new list, owned -/
theorem s_asgO {i : Nat} {ds : List D} (hO : Own K G H os) (h : EN K te σ G os ds) (k : ∀ l xs G' H', Ex G G' → Own K G' H' ((l, .lst xs) :: os) → IsA K G' xs ds → Z.nx (σ.set i (some (.ref l))) H') : tAsg te (gName i) Z σ H :=
  h G (Ex.refl _) H hO _ fun l xs G' H' e hO' hx => k l xs G' H' e hO' hx
/-- [e for x in range(n)] -/
theorem en_lcR1 {ta : TA} {n : Int} {f : Nat → D} (h : EA K ta σ G os [.int n]) (hn : 0 ≤ n ∧ n ≤ 90000) (hw : ∀ x, wipe ((wipe σ vs).set j (some x)) vs = wipe σ vs)
    (he : ∀ (m : Nat) (p : Addr × HO), (m : Int) < n → EV K te ((wipe σ vs).set j (some (.int (m : Int)))) G (p :: os) (f m)) : EN K (tLc (iRng1 ta) (gName j) tYes te vs) σ G os ((List.range n.toNat).map f) := fun G1 e H hO Q q =>
  h G1 e H hO _ fun us G2 H2 e2 hO2 hv => by
    cases hv with
    | cons h1 h2 =>
      cases h1; cases h2
      refine ⟨n, rfl, by omega, by omega, fun Dl hD => lc_range (lo := 0) (n := n.toNat) (fun m H' => Gat K G2 os Dl ((List.range m).map f) H') ⟨G2, [], Ex.refl _, hO2.add hD, .nil⟩ (fun m H1 hm p => ?_) (fun H' p => ?_)⟩
      · have e0 : (0 : Int) + (m : Int) = (m : Int) := Int.zero_add _
        show wipe ((wipe σ vs).set j (some (.int (0 + (m : Int))))) vs = wipe σ vs ∧ (if true = true then te ((wipe σ vs).set j (some (.int (0 + (m : Int))))) H1 fun y H4 => ∃ acc, H4 Dl = some (.lst acc) ∧ acc.length < sizeLine ∧ Gat K G2 os Dl ((List.range (m + 1)).map f) (upd H4 Dl (.lst (acc ++ [y]))) else Gat K G2 os Dl ((List.range (m + 1)).map f) H1)
        rw [e0]
        refine ⟨hw _, iteT ?_⟩
        rw [List.range_succ, List.map_append, List.map_singleton]
        exact gat_turn p (by rw [List.length_map, List.length_range]; omega) fun p => (he m p (by omega)).mono (e.trans e2)
      · obtain ⟨G', acc, e', hO', ha⟩ := p
        exact q _ _ _ H' (e2.trans e') hO' ha
/-- [e for x in xs] over a list of data, by its items -/
theorem en_lcL {g : TG} {ds : List D} {f : Nat → D} (h : EV K tl σ G os (.lst ds)) (hz : ds.length ≤ 90000)
    (he : ∀ (m : Nat) (x : D) (v : V) (G' H' : Hp) (R : L2.St → Hp → Prop), Ex G G' → Ex G' H' → ds[m]? = some x → Is K G' v x → (∀ σ2, wipe σ2 vs = wipe σ vs → (∀ p : Addr × HO, EV K te σ2 G' (p :: os) (f m)) → R σ2 H') → g v (wipe σ vs) H' R) : EN K (tLc (iAny K tl) g tYes te vs) σ G os ((List.range ds.length).map f) := fun G1 e H hO Q q =>
  h G1 e H hO _ fun v G2 H2 e2 hO2 hv => by
    obtain ⟨a, xs, rfl, hx, hk⟩ := hv.lst_inv
    refine .inl ⟨a, rfl, ⟨xs, sq_of (hO2.ex _ _ hx)⟩, fun Dl hD => lc_list (K := K) (a := a) (xs := xs) (fun m H' => Gat K G2 os Dl ((List.range m).map f) H') ⟨G2, [], Ex.refl _, hO2.add hD, .nil⟩ (fun m H' _ p => ?_) (fun m v1 H1 hm p => ?_) (fun H' p => ?_)⟩
    · obtain ⟨G', acc, e', hO', _⟩ := p
      exact sq_of (e'.trans hO'.ex _ _ hx)
    · obtain ⟨x, hx, iv⟩ := hk.getV hm
      have hlt : m < ds.length := (List.getElem?_eq_some_iff.mp hx).1
      have eH : Ex G2 H1 := let ⟨G', acc, e', hO', _⟩ := p; e'.trans hO'.ex
      refine he m x v1 G2 H1 _ (e.trans e2) eH hx iv fun σ2 hw hE => ⟨hw, ?_⟩
      refine iteT (B := Gat K G2 os Dl ((List.range (m + 1)).map f) H1) ?_
      rw [List.range_succ, List.map_append, List.map_singleton]
      exact gat_turn p (by rw [List.length_map, List.length_range]; omega) hE
    · obtain ⟨G', acc, e', hO', ha⟩ := p
      rw [hk.length] at ha
      exact q _ _ _ H' (e2.trans e') hO' ha
theorem en_lcT {g : TG} {ds : List D} {f : Nat → D} (h : EV K tl σ G os (.tup ds)) (hz : ds.length ≤ 90000)
    (he : ∀ (m : Nat) (x : D) (v : V) (G' H' : Hp) (R : L2.St → Hp → Prop), Ex G G' → Ex G' H' → ds[m]? = some x → Is K G' v x → (∀ σ2, wipe σ2 vs = wipe σ vs → (∀ p : Addr × HO, EV K te σ2 G' (p :: os) (f m)) → R σ2 H') → g v (wipe σ vs) H' R) : EN K (tLc (iAny K tl) g tYes te vs) σ G os ((List.range ds.length).map f) := fun G1 e H hO Q q =>
  h G1 e H hO _ fun v G2 H2 e2 hO2 hv => by
    obtain ⟨a, xs, rfl, hx, hk⟩ := hv.tup_inv
    refine .inr <| .inl ⟨a, rfl, ⟨xs, ex_t hO2.ex hx⟩, fun Dl hD => lc_tup (K := K) (a := a) (xs := xs) (fun m H' => Gat K G2 os Dl ((List.range m).map f) H') ⟨G2, [], Ex.refl _, hO2.add hD, .nil⟩ (fun m H' _ p => ?_) (fun m v1 H1 hm p => ?_) (fun H' p => ?_)⟩
    · obtain ⟨G', acc, e', hO', _⟩ := p
      exact ex_t (e'.trans hO'.ex) hx
    · obtain ⟨x, hx, iv⟩ := hk.getV hm
      have hlt : m < ds.length := (List.getElem?_eq_some_iff.mp hx).1
      have eH : Ex G2 H1 := let ⟨G', acc, e', hO', _⟩ := p; e'.trans hO'.ex
      refine he m x v1 G2 H1 _ (e.trans e2) eH hx iv fun σ2 hw hE => ⟨hw, ?_⟩
      refine iteT (B := Gat K G2 os Dl ((List.range (m + 1)).map f) H1) ?_
      rw [List.range_succ, List.map_append, List.map_singleton]
      exact gat_turn p (by rw [List.length_map, List.length_range]; omega) hE
    · obtain ⟨G', acc, e', hO', ha⟩ := p
      rw [hk.length] at ha
      exact q _ _ _ H' (e2.trans e') hO' ha
/-- the items of such a list, told by a list of one's own -/
theorem range_map {α : Type} {as : List α} {f : Nat → D} {g : α → D} {n : Nat} (hn : n = as.length) (h : ∀ m a, as[m]? = some a → f m = g a) : (List.range n).map f = as.map g := by
  subst hn
  refine List.ext_getElem? fun m => ?_
  rw [List.getElem?_map, List.getElem?_map]
  by_cases hm : m < as.length
  · rw [List.getElem?_range hm, List.getElem?_eq_getElem hm]
    exact congrArg some (h m _ (List.getElem?_eq_getElem hm))
  · rw [List.getElem?_eq_none (by rw [List.length_range]; omega), List.getElem?_eq_none (by omega)]
    rfl
end

abbrev rAddS : R2 := fun x y H Q => ∃ i j, x = .str i ∧ y = .str j ∧ i.length + j.length ≤ sizeLine ∧ Q (.str (i ++ j)) H
abbrev rInC (neg : Bool) : R2 := fun x y H Q => ∃ (c : Nat) (z : Str), x = .str ⟨#[c]⟩ ∧ y = .str z ∧ Q (.bl (if neg then !decide (c ∈ z.cps.toList) else decide (c ∈ z.cps.toList))) H
def rAddU (K : PySem.W.Frag) : R2 := fun x y H Q => rI0 (fun i j => .int (i + j)) x y H Q ∨ rAddS x y H Q ∨ rCat x y H Q ∨ rCatA K x y H Q
def rInU (K : PySem.W.Frag) (neg : Bool) : R2 := fun x y H Q => rIn K neg x y H Q ∨ rInC neg x y H Q
def rDivU : R2 := fun x y H Q => rI CDiv (fun i j => .int (i / j)) x y H Q ∨ rI CDivW (fun i j => .int (i / j)) x y H Q
def rMulU : R2 := fun x y H Q => rI CMul (fun i j => .int (i * j)) x y H Q ∨ rI CMulW (fun i j => .int (i * j)) x y H Q
def rLenU (K : PySem.W.Frag) : List V → Hp → VK → Prop := fun xs H Q => ∃ x n, xs = [x] ∧ LenV K x H n ∧ Q (.int n) H
/-! ## the rules that name the written part, over a K that is the context's -/
section
variable {X : Cx} {K : PySem.W.Frag}
theorem ixL (h : X.K = K) : IxR X (rIxL K) := h ▸ ix_list
theorem ixT (h : X.K = K) : IxR X (rIxT K) := h ▸ ix_tup
theorem slL (h : X.K = K) : SlR X (rSlL K) := h ▸ sl_list
theorem slT (h : X.K = K) : SlR X (rSlT K) := h ▸ sl_tup
theorem callLen (h : X.K = K) : CallR X (.builtin "len") (rLenQ K) := h ▸ call_len_seq
theorem callSum (h : X.K = K) (hc : X.calm = true) : CallR X (.builtin "sum") (rSum K) := h ▸ cr_sum hc
theorem callMax (h : X.K = K) (hc : X.calm = true) : CallR X (.builtin "max") (rMax K) := h ▸ cr_max hc
theorem callMin (h : X.K = K) (hc : X.calm = true) : CallR X (.builtin "min") (rMin K) := h ▸ cr_min hc
theorem callIsi (h : X.K = K) : CallR X (.builtin "isinstance") (rIsi K) := h ▸ call_isi
abbrev rTupQ (K : PySem.W.Frag) : List V → Hp → VK → Prop := fun xs H Q => ∃ p ys, xs = [.ref p] ∧ ((SqL K H p ys ∧ ∀ l, H l = none → Q (.ref l) (upd H l (.tup ys))) ∨ (SqT K H p ys ∧ Q (.ref p) H))
abbrev rListQ (K : PySem.W.Frag) : List V → Hp → VK → Prop := fun xs H Q => ∃ p ys, xs = [.ref p] ∧ (SqL K H p ys ∨ SqT K H p ys) ∧ ∀ l, H l = none → Q (.ref l) (upd H l (.lst ys))
theorem callTup (h : X.K = K) : CallR X (.type "tuple") (rTupQ K) := h ▸ call_tuple_of
theorem callList (h : X.K = K) : CallR X (.type "list") (rListQ K) := h ▸ call_list_of
theorem ixA (h : X.K = K) : IxR X (rIx K) := h ▸ ix_seq
theorem opAdd (h : X.K = K) : OpR X (binaryOp .Add) (rAddU K) := h ▸ op_add.or (op_add_str.or (op_cat.or op_catA))
theorem opInU (h : X.K = K) : OpR X (compareOp .In) (rInU K false) := h ▸ op_in_seq.or op_in_sign
theorem opNotInU (h : X.K = K) : OpR X (compareOp .NotIn) (rInU K true) := h ▸ op_notIn_seq.or op_notIn_sign
theorem opDiv {X : Cx} : OpR X (binaryOp .FloorDiv) rDivU := op_fdiv.or op_fdivW
theorem opMul {X : Cx} : OpR X (binaryOp .Mult) rMulU := op_mul.or op_mulW
theorem callLenU (h : X.K = K) : CallR X (.builtin "len") (rLenU K) := h ▸ call_len
theorem opIn (h : X.K = K) : OpR X (compareOp .In) (rIn K false) := h ▸ op_in_seq
theorem opNotIn (h : X.K = K) : OpR X (compareOp .NotIn) (rIn K true) := h ▸ op_notIn_seq
theorem piA {tg l : Expr} {tl : TE} (h : X.K = K) (hl : PE X l tl) : PI X tg l (iAny K tl) := h ▸ pi_any hl
theorem piL {tg l : Expr} {tl : TE} (h : X.K = K) (hl : PE X l tl) : PI X tg l (iList K tl) := h ▸ pi_list hl
theorem piT {tg l : Expr} {tl : TE} (h : X.K = K) (hl : PE X l tl) : PI X tg l (iTup K tl) := h ▸ pi_tup hl
theorem bmK {T name id : String} {r : V → List V → Hp → VK → Prop} {o e : Expr} {es : List Expr} {apos cpos : Pos} {to : TE} {t : TA} (h : X.K = K) (b : PE X (.Call (.Attribute o name apos) (e :: es) [] cpos) (tBM X.K T r to t)) : PE X (.Call (.Attribute o name apos) (e :: es) [] cpos) (tBM K T r to t) := h ▸ b
theorem bm0K {T name id : String} {r : V → List V → Hp → VK → Prop} {o : Expr} {apos cpos : Pos} {to : TE} (h : X.K = K) (b : PE X (.Call (.Attribute o name apos) [] [] cpos) (tBM0 X.K T r to)) : PE X (.Call (.Attribute o name apos) [] [] cpos) (tBM0 K T r to) := h ▸ b
theorem gTupK {es : List Expr} {k : Nat} {t : TGs} {n : Nat} {pos : Pos} (h : X.K = K) (g : PG X (.Tuple es k pos) (gTup X.K n t)) : PG X (.Tuple es k pos) (gTup K n t) := h ▸ g
end

/-! ## defs -/
/-- the promise of a def that changes nothing it is given and raises nothing: P of the data in and out -/
def Pr (K : PySem.W.Frag) (P : List D → D → Prop) : Sp := fun vs H Q _ => ∃ G os ds d, Own K G H os ∧ IsA K G vs ds ∧ P ds d ∧ ∀ v G' H', Ex G G' → Own K G' H' os → Is K G' v d → Q v H'
/-- a def as it stands behind the top -/
abbrev FnP (K : PySem.W.Frag) (x : Str) (st : Stmt) (f : Addr) (fd : FuncData) : Prop := FunD K x x (defArgs st) (defBody st) (defScope st) [] [] f fd
structure Fn (P : Program) (w : World) (K : PySem.W.Frag) (mg : Str → Option Value) (base : Heap) (x : Str) (k : Nat) (ps : List Str) (sp : Sp) : Prop where
  ex : ∃ f fd, FnOk P w K mg base CX0 k f fd ps sp ∧ mg x = some (.ref f) ∧ PySem.W.keepIn K (.ref f) = true ∧ Binds K fd ps [] ∧ ∃ oc od osl, K.lookup f = some ⟨oc, od, .func fd, osl⟩
/-- where a def stands -/
def At (K : PySem.W.Frag) (mg : Str → Option Value) (x : Str) (st : Stmt) : Prop := ∃ f fd, FnP K x st f fd ∧ mg x = some (.ref f)
section
variable {P : Program} {w : World} {K : PySem.W.Frag} {mg : Str → Option Value} {base : Heap} {x : Str} {st : Stmt} {N ps : List Str} {k : Nat}
theorem Fn.mk' {sp : Sp} (A : At K mg x st) (S : FnScope N ps (defScope st))
    (hb : ∀ (kV doc pm : Value) (an : Option Addr) (cdv ct : Value) (us : List Value), us.length = ps.length → bindArgs (PySem.W.fnOf x x (defArgs st) (defBody st) (defScope st) .none kV doc pm an cdv ct) ⟨us, []⟩ = pure (ps.zip us)) (len : ∀ vs H Q E, sp vs H Q E → vs.length = ps.length)
    (hbody : ∀ (f : Addr) (cdv : Value) (A : Around) (outer : List Env) (s : Shared) (H : Hp) (vs : List V) (Q : VK) (E : XK), Room k (A.deeper (envOfC x (defScope st) s.heap.objs.size f cdv)) → sp vs H Q E →
      ∃ t, PSs (cxOf CX0 P w K mg base N x (defScope st) f cdv A outer s H E).nox (defBody st) t ∧ t { nx := fun _ H' => Q .non H', rt := Q } (start N vs) H) : Fn P w K mg base x (k + 1) ps sp := by
  obtain ⟨f, fd, F, g⟩ := A
  refine ⟨f, fd, F.ok S len (fun cdv A outer s H vs Q E hr h => ?_), g, F.kp, F.bindsN hb, let ⟨oc, od, _, _, _, _, _, _, _, osl, _, lk, _⟩ := F.ex; ⟨oc, od, osl, lk⟩⟩
  obtain ⟨t, h1, h2⟩ := hbody f cdv A outer s H vs Q E hr h
  exact ⟨t, h1.nox, h2⟩
/-- THE RULE for a def with such a promise -/
theorem Fn.mkP {P' : List D → D → Prop} (A : At K mg x st) (S : FnScope N ps (defScope st)) (hb : ∀ (kV doc pm : Value) (an : Option Addr) (cdv ct : Value) (us : List Value), us.length = ps.length → bindArgs (PySem.W.fnOf x x (defArgs st) (defBody st) (defScope st) .none kV doc pm an cdv ct) ⟨us, []⟩ = pure (ps.zip us)) (len : ∀ ds d, P' ds d → ds.length = ps.length)
    (hbody : ∀ (f : Addr) (cdv : Value) (A : Around) (outer : List Env) (s : Shared) (H : Hp) (E : XK), Room k (A.deeper (envOfC x (defScope st) s.heap.objs.size f cdv)) →
      ∃ t, PSs (cxOf CX0 P w K mg base N x (defScope st) f cdv A outer s H E).nox (defBody st) t ∧
        ∀ (G : Hp) (os : List (Addr × HO)) (ds : List D) (d : D) (vs : List V) (Q : VK), Own K G H os → IsA K G vs ds → P' ds d → (∀ v G' H', Ex G G' → Own K G' H' os → Is K G' v d → Q v H') → t { nx := fun _ H' => Q .non H', rt := Q } (start N vs) H) : Fn P w K mg base x (k + 1) ps (Pr K P') := by
  refine Fn.mk' A S hb (fun vs H Q E h => ?_) fun f cdv A outer s H vs Q E hr h => ?_
  · obtain ⟨G, os, ds, d, _, hv, hp, _⟩ := h
    rw [hv.length]
    exact len ds d hp
  · obtain ⟨G, os, ds, d, hO, hv, hp, q⟩ := h
    obtain ⟨t, h1, h2⟩ := hbody f cdv A outer s H E hr
    exact ⟨t, h1, h2 G os ds d vs Q hO hv hp q⟩
end
/-- the def's object is the one that stands there -/
theorem Fn.at_ {P : Program} {w : World} {K : PySem.W.Frag} {mg : Str → Option Value} {base : Heap} {x : Str} {k : Nat} {ps : List Str} {sp : Sp} {st : Stmt} {f : Addr} {fd : FuncData} (C : Fn P w K mg base x k ps sp) (F : FnP K x st f fd) (hm : mg x = some (.ref f)) : FnOk P w K mg base CX0 k f fd ps sp := by
  obtain ⟨f2, fd2, FO, hm2, _, _, oc, od, osl, lk⟩ := C.ex
  have e := hm2.symm.trans hm
  cases e
  obtain ⟨_, _, _, _, _, _, _, _, _, _, _, lk2, _⟩ := F.ex
  have e := lk.symm.trans lk2
  cases e
  exact FO
section
variable {X : Cx} {x : Str} {k : Nat} {ps : List Str} {sp : Sp} {e : Expr} {es : List Expr} {t : TA} {p pos : Pos}
theorem pe_fn (C : Fn X.prog X.w X.K X.mg X.base x k ps sp) (hr : Room k X.A) (hg : Gl X x) (ha : PA X (e :: es) t) (hdb : (x == ("__debug__" : Str)) = false := by decide)
    (he : starEach (e :: es) X.env = (false, eval e X.env) :: starEach es X.env := by rfl) (hpl : (backTo pos (starEach es X.env)).any (·.1) = false := by rfl) : PE X (.Call (.Name x p) (e :: es) [] pos) (tCall sp [] E0 t) := by
  obtain ⟨f, fd, F, hm, hk, hb, _⟩ := C.ex
  exact pe_call F hr hg hm hk hb .nil pass0 ha hdb he hpl
end
section
variable {X : Cx} {x : Str} {k : Nat} {ps : List Str} {sp : Sp} {p pos : Pos}
theorem pe_fn0 (C : Fn X.prog X.w X.K X.mg X.base x k ps sp) (hr : Room k X.A) (hg : Gl X x) (hdb : (x == ("__debug__" : Str)) = false := by decide) : PE X (.Call (.Name x p) [] [] pos) (tCall sp [] E0 tNil) := by
  obtain ⟨f, fd, F, hm, hk, hb, _⟩ := C.ex
  exact pe_call0 F hr hg hm hk hb .nil pass0 hdb
end
section
variable {K : PySem.W.Frag} {σ : L2.St} {G H : Hp} {os : List (Addr × HO)} {ta : TA} {ds : List D} {d : D} {P : List D → D → Prop} {E : XK}
theorem ev_call (h : EA K ta σ G os ds) (p : P ds d) : EV K (tCall (Pr K P) [] E ta) σ G os d := fun G1 e H hO Q q =>
  h G1 e H hO _ fun vs G2 H2 e2 hO2 hv => ⟨G2, os, ds, d, hO2, by rw [List.append_nil]; exact hv, p, fun v G' H' e' hO' hv' => q v G' H' (e2.trans e') hO' hv'⟩
end

/-! ## more: kinds of data, texts, in, dicts -/
section
variable {K : PySem.W.Frag} {σ : L2.St} {G G' H : Hp} {os : List (Addr × HO)} {ta tb te td ty : TE} {t u : TT} {x y z d : D} {v f : V} {r : R2}
/-- the class of a datum -/
def kindD : D → String
  | .non => "NoneType" | .bl _ => "bool" | .int _ => "int" | .str _ => "str" | .lst _ => "list" | .frl _ => "list" | .tup _ => "tuple" | .dct _ => "dict" | _ => ""
theorem ty_of (hk : kindD d ≠ "") (h : Is K G v d) (e : Ex G H) : TyX K H v (.type (kindD d)) := by
  cases h with
  | non => exact .base .non
  | bl b => exact .base (.bl b)
  | int i => exact .base (.int i)
  | str x => exact .base (.str x)
  | lst h _ => exact .base (.lst (e _ _ h))
  | frl h _ =>
    rcases ex_l e h with (h | ⟨o, h⟩) | ⟨o, its, n, lk, hc, _⟩
    · exact .base (.lst h)
    · exact .base (.frz h)
    · exact .kList lk hc
  | tup h _ =>
    rcases ex_t e h with (h | ⟨o, h⟩) | ⟨o, its, n, lk, hc, _⟩
    · exact .base (.tup h)
    · exact .fTuple h
    · exact .kTuple lk hc
  | dct h _ => exact .base (.dK (e _ _ h))
  | _ => exact absurd rfl hk
theorem rc_isiD {m : String} {b : Bool} (hk : kindD x ≠ "") (hb : kitB (kindD x) m = some b) : RC K (rIsi K) [x, .ty m] (.bl b) := rc_isi (fun _ _ _ h e => ty_of hk h e) (kit_ty hb)
/-- is None -/
theorem rb_isN {b : Bool} (h : ∀ G v, Is K G v x → decide (v = .non) = b) : RB K (fun x y H Q => y = .non ∧ Q (.bl (decide (x = .non))) H) x .non (.bl b) := fun G H os v w hO hv hw Q q => by
  cases hw
  exact ⟨rfl, by rw [h G v hv]; exact q _ G H (Ex.refl _) hO (.bl _)⟩
theorem rb_notN {b : Bool} (h : ∀ G v, Is K G v x → decide (v = .non) = b) : RB K (fun x y H Q => y = .non ∧ Q (.bl (!decide (x = .non))) H) x .non (.bl (!b)) := fun G H os v w hO hv hw Q q => by
  cases hw
  exact ⟨rfl, by rw [h G v hv]; exact q _ G H (Ex.refl _) hO (.bl _)⟩
def isNon : D → Bool
  | .non => true
  | _ => false
theorem non_is (h : Is K G v x) : decide (v = V.non) = isNon x := by cases h <;> rfl
theorem rb_isD : RB K (fun x y H Q => y = .non ∧ Q (.bl (decide (x = .non))) H) x .non (.bl (isNon x)) := rb_isN fun _ _ h => non_is h
theorem rb_notD : RB K (fun x y H Q => y = .non ∧ Q (.bl (!decide (x = .non))) H) x .non (.bl (!isNon x)) := rb_notN fun _ _ h => non_is h
/-- flat data compared by == (None beside others too) -/
theorem rb_eqF {f g : V} (hx : flatD x = some f) (hy : flatD y = some g) (hs : scal f g = true) : RB K rEq x y (.bl (decide (f = g))) := rb_val (fun _ => .bl _) fun _ _ _ _ hv hw _ _ q => by
  rw [flat_inv hx hv, flat_inv hy hw]; exact ⟨hs, q⟩
theorem rb_neF {f g : V} (hx : flatD x = some f) (hy : flatD y = some g) (hs : scal f g = true) : RB K rNe x y (.bl (!decide (f = g))) := rb_val (fun _ => .bl _) fun _ _ _ _ hv hw _ _ q => by
  rw [flat_inv hx hv, flat_inv hy hw]; exact ⟨hs, q⟩
/-- flat items -/
def flatDs : List D → Option (List V)
  | [] => some []
  | d :: r => match flatD d, flatDs r with
    | some f, some fs => some (f :: fs)
    | _, _ => none
theorem flats_inv : ∀ {ds : List D} {fs vs : List V}, flatDs ds = some fs → IsA K G vs ds → vs = fs
  | [], fs, _, h, .nil => by simp [flatDs] at h; exact h.symm
  | d :: r, fs, _, h, .cons k k' => by
    unfold flatDs at h
    cases e1 : flatD d with
    | none => rw [e1] at h; simp at h
    | some f =>
      cases e2 : flatDs r with
      | none => rw [e1, e2] at h; simp at h
      | some gs =>
        rw [e1, e2] at h
        simp at h
        subst h
        rw [flat_inv e1 k, flats_inv e2 k']
theorem flatDs_str : ∀ ss : List Str, flatDs (ss.map D.str) = some (ss.map V.str)
  | [] => rfl
  | s :: r => by
    show (match flatD (D.str s), flatDs (r.map D.str) with | some f, some fs => some (f :: fs) | _, _ => none) = _
    rw [flatDs_str r]; rfl
theorem flatDs_int : ∀ ss : List Int, flatDs (ss.map D.int) = some (ss.map V.int)
  | [] => rfl
  | s :: r => by
    show (match flatD (D.int s), flatDs (r.map D.int) with | some f, some fs => some (f :: fs) | _, _ => none) = _
    rw [flatDs_int r]; rfl
theorem inV_str (s : Str) (ss : List Str) : inV (.str s) (ss.map V.str) = decide (s ∈ ss) := by
  unfold inV
  induction ss with
  | nil => rfl
  | cons a r ih =>
    rw [List.map_cons, List.any_cons, ih]
    show ((a == s) || decide (s ∈ r)) = decide (s ∈ a :: r)
    rw [Bool.eq_iff_iff, Bool.or_eq_true, beq_iff_eq, decide_eq_true_eq, decide_eq_true_eq, List.mem_cons]
    exact ⟨fun h => h.elim (fun h => .inl h.symm) .inr, fun h => h.elim (fun h => .inl h.symm) .inr⟩
theorem inV_int (s : Int) (ss : List Int) : inV (.int s) (ss.map V.int) = decide (s ∈ ss) := by
  unfold inV
  induction ss with
  | nil => rfl
  | cons a r ih =>
    rw [List.map_cons, List.any_cons, ih]
    show ((a == s) || decide (s ∈ r)) = decide (s ∈ a :: r)
    rw [Bool.eq_iff_iff, Bool.or_eq_true, beq_iff_eq, decide_eq_true_eq, decide_eq_true_eq, List.mem_cons]
    exact ⟨fun h => h.elim (fun h => .inl h.symm) .inr, fun h => h.elim (fun h => .inl h.symm) .inr⟩
theorem rb_inT {neg : Bool} {ds : List D} {fs : List V} (hx : flatD x = some f) (hd : flatDs ds = some fs) (h1 : flatV f = true) (h2 : fs.all flatV = true) : RB K (rIn K neg) x (.tup ds) (.bl (if neg then !inV f fs else inV f fs)) := fun G H os v w hO hv hw Q q => by
  obtain ⟨a, xs, rfl, h, k⟩ := hw.tup_inv
  rw [flat_inv hx hv]
  have e := flats_inv hd k
  subst e
  exact ⟨a, _, rfl, .inr (ex_t hO.ex h), h1, h2, q _ G H (Ex.refl _) hO (.bl _)⟩
theorem rb_inL {neg : Bool} {ds : List D} {fs : List V} (hx : flatD x = some f) (hd : flatDs ds = some fs) (h1 : flatV f = true) (h2 : fs.all flatV = true) : RB K (rIn K neg) x (.lst ds) (.bl (if neg then !inV f fs else inV f fs)) := fun G H os v w hO hv hw Q q => by
  obtain ⟨a, xs, rfl, h, k⟩ := hw.lst_inv
  rw [flat_inv hx hv]
  have e := flats_inv hd k
  subst e
  exact ⟨a, _, rfl, .inl (sq_of (hO.ex _ _ h)), h1, h2, q _ G H (Ex.refl _) hO (.bl _)⟩
theorem strs_flat (ss : List Str) : (ss.map V.str).all flatV = true := by simp [flatV]
theorem ints_flat (ss : List Int) : (ss.map V.int).all flatV = true := by simp [flatV]
theorem rb_inTS {s : Str} {ss : List Str} : RB K (rIn K false) (.str s) (.tup (ss.map D.str)) (.bl (decide (s ∈ ss))) := by
  have h := rb_inT (K := K) (neg := false) (x := .str s) (ds := ss.map D.str) rfl (flatDs_str ss) rfl (strs_flat ss)
  rw [inV_str] at h
  exact h
theorem rb_inLS {s : Str} {ss : List Str} : RB K (rIn K false) (.str s) (.lst (ss.map D.str)) (.bl (decide (s ∈ ss))) := by
  have h := rb_inL (K := K) (neg := false) (x := .str s) (ds := ss.map D.str) rfl (flatDs_str ss) rfl (strs_flat ss)
  rw [inV_str] at h
  exact h
theorem rb_niTS {s : Str} {ss : List Str} : RB K (rIn K true) (.str s) (.tup (ss.map D.str)) (.bl (!decide (s ∈ ss))) := by
  have h := rb_inT (K := K) (neg := true) (x := .str s) (ds := ss.map D.str) rfl (flatDs_str ss) rfl (strs_flat ss)
  rw [inV_str] at h
  exact h
theorem rb_niLS {s : Str} {ss : List Str} : RB K (rIn K true) (.str s) (.lst (ss.map D.str)) (.bl (!decide (s ∈ ss))) := by
  have h := rb_inL (K := K) (neg := true) (x := .str s) (ds := ss.map D.str) rfl (flatDs_str ss) rfl (strs_flat ss)
  rw [inV_str] at h
  exact h
/-- texts -/
theorem rb_ixS {w : Str} {i : Int} {c : Nat} (hl : w.length ≤ 100000) (e : atI w.cps.toList i = some c) : RB K rIxS (.str w) (.int i) (.str ⟨#[c]⟩) := rb_val (fun _ => .str _) fun _ _ _ _ hv hw _ _ q => by
  cases hv; cases hw; exact ⟨w, i, c, rfl, rfl, sz_of hl, e, q⟩
theorem rb_addS {a b : Str} (h : a.length + b.length ≤ 1000000) : RB K rAddS (.str a) (.str b) (.str (a ++ b)) := rb_val (fun _ => .str _) fun _ _ _ _ hv hw _ _ q => by
  cases hv; cases hw; exact ⟨a, b, rfl, rfl, by have := sizeLine_eq; omega, q⟩
abbrev rLenS : List V → Hp → VK → Prop := fun xs H Q => ∃ z, xs = [.str z] ∧ z.length ≤ sizeLine ∧ Q (.int z.length) H
theorem rc_lenS {w : Str} (h : w.length ≤ 1000000) : RC K rLenS [.str w] (.int w.length) := fun G H os vs hO hv Q q => by
  cases hv with
  | cons h1 k => cases k; cases h1; exact ⟨w, rfl, by have := sizeLine_eq; omega, q _ G H (Ex.refl _) hO (.int _)⟩
/-- xs + ys, two lists of the base: a new one -/
theorem en_cat {ds es : List D} (ha : EV K ta σ G os (.lst ds)) (hb : EV K tb σ G os (.lst es)) (hz : ds.length + es.length ≤ 100000) : EN K (tOp rCat ta tb) σ G os (ds ++ es) := fun G1 e H hO Q q =>
  ha G1 e H hO _ fun v G2 H2 e2 hO2 hv => hb G2 (e.trans e2) H2 hO2 _ fun w G3 H3 e3 hO3 hw => by
    obtain ⟨a, xs, rfl, h1, k1⟩ := hv.lst_inv
    obtain ⟨b, ys, rfl, h2, k2⟩ := hw.lst_inv
    exact ⟨a, b, xs, ys, rfl, rfl, hO3.ex _ _ (e3 _ _ h1), hO3.ex _ _ h2, sz_of (by rw [k1.length, k2.length]; exact hz), fun p hp => q p _ G3 _ (e2.trans e3) (hO3.add hp) ((k1.mono e3).append k2)⟩
/-- xs[i:j], a new list -/
def EO (K : PySem.W.Frag) (to : TO) (σ : L2.St) (G : Hp) (os : List (Addr × HO)) (o : Option Int) : Prop :=
  ∀ G1, Ex G G1 → ∀ H, Own K G1 H os → ∀ Q : Option Int → Hp → Prop, (∀ H', Own K G1 H' os → Q o H') → to σ H Q
theorem eo_none : EO K tNoPart σ G os none := fun _ _ H hO _ q => q H hO
theorem eo_some {i : Int} (h : EV K te σ G os (.int i)) : EO K (tPart te) σ G os (some i) := fun G1 e H hO Q q => h G1 e H hO _ fun v G' H' e' hO' hv => by
  cases hv; exact ⟨i, rfl, q H' (hO'.weak e')⟩
def cutD (xs : List D) (lo hi : Option Int) : List D := (xs.drop (HT.sIx xs.length 0 lo)).take (HT.sIx xs.length xs.length hi - HT.sIx xs.length 0 lo)
theorem isA_cut {xs : List V} {ds : List D} (h : IsA K G xs ds) (lo hi : Option Int) : IsA K G (cutV xs lo hi) (cutD ds lo hi) := by
  unfold cutV cutD
  rw [h.length]
  exact (h.drop _).take _
theorem en_slL {ds : List D} {tl th : TO} {lo hi : Option Int} (ha : EV K ta σ G os (.lst ds)) (hl : EO K tl σ G os lo) (hh : EO K th σ G os hi) : EN K (tSl (rSlL K) ta tl th) σ G os (cutD ds lo hi) := fun G1 e H hO Q q =>
  ha G1 e H hO _ fun v G2 H2 e2 hO2 hv => hl G2 (e.trans e2) H2 hO2 _ fun H3 hO3 => hh G2 (e.trans e2) H3 hO3 _ fun H4 hO4 => by
    obtain ⟨a, xs, rfl, h1, k1⟩ := hv.lst_inv
    exact ⟨a, xs, rfl, sq_of (hO4.ex _ _ h1), fun p hp => q p _ G2 _ e2 (hO4.add hp) (isA_cut k1 lo hi)⟩
theorem cutD_nat (xs : List D) (i j : Nat) (h : i ≤ j) (hj : j ≤ xs.length) : cutD xs (some (i : Int)) (some (j : Int)) = (xs.drop i).take (j - i) := by
  unfold cutD
  rw [HT.sIx_nat, HT.sIx_nat, Nat.min_eq_left (show i ≤ xs.length by omega), Nat.min_eq_left hj]
/-- list(xs), a new list -/
theorem en_list {ds : List D} {ta : TA} (ha : EA K ta σ G os [.lst ds]) : EN K (tCB (rListQ K) ta) σ G os ds := fun G1 e H hO Q q =>
  ha G1 e H hO _ fun vs G2 H2 e2 hO2 hv => by
    cases hv with
    | cons h k =>
      cases k
      obtain ⟨a, xs, rfl, h1, k1⟩ := h.lst_inv
      exact ⟨a, xs, rfl, .inl (sq_of (hO2.ex _ _ h1)), fun p hp => q p _ G2 _ e2 (hO2.add hp) k1⟩
theorem en_listT {ds : List D} {ta : TA} (ha : EA K ta σ G os [.tup ds]) : EN K (tCB (rListQ K) ta) σ G os ds := fun G1 e H hO Q q =>
  ha G1 e H hO _ fun vs G2 H2 e2 hO2 hv => by
    cases hv with
    | cons h k =>
      cases k
      obtain ⟨a, xs, rfl, h1, k1⟩ := h.tup_inv
      exact ⟨a, xs, rfl, .inr (ex_t hO2.ex h1), fun p hp => q p _ G2 _ e2 (hO2.add hp) k1⟩
/-- {k: v, ..}[key] -/
def EPs (K : PySem.W.Frag) (trs : List (TE × TE)) (σ : L2.St) (G : Hp) (os : List (Addr × HO)) (ps : List (D × D)) : Prop :=
  ∀ G1, Ex G G1 → ∀ H, Own K G1 H os → ∀ Q : List (V × V) → Hp → Prop, (∀ vs G' H', Ex G1 G' → Own K G' H' os → IsA K G' (vs.map (·.1)) (ps.map (·.1)) → IsA K G' (vs.map (·.2)) (ps.map (·.2)) → Q vs H') → tPairs trs σ H Q
theorem eps_nil : EPs K [] σ G os [] := fun G1 _ H hO _ q => q [] G1 H (Ex.refl _) hO .nil .nil
theorem eps_cons {trs : List (TE × TE)} {ps : List (D × D)} (ha : EV K ta σ G os x) (hb : EV K tb σ G os y) (hr : EPs K trs σ G os ps) : EPs K ((ta, tb) :: trs) σ G os ((x, y) :: ps) := fun G1 e H hO _ q =>
  ha G1 e H hO _ fun v G2 H2 e2 hO2 hv => hb G2 (e.trans e2) H2 hO2 _ fun w G3 H3 e3 hO3 hw => hr G3 ((e.trans e2).trans e3) H3 hO3 _ fun vs G4 H4 e4 hO4 k1 k2 =>
    q ((v, w) :: vs) G4 H4 ((e2.trans e3).trans e4) hO4 (.cons (hv.mono (e3.trans e4)) k1) (.cons (hw.mono e4) k2)
end

section
variable {K : PySem.W.Frag} {σ σ' : L2.St} {G G' G0 H : Hp} {os os0 os' : List (Addr × HO)} {ta tb te : TE} {t u w : TS} {tt : TT} {x y z d d0 : D} {v f : V} {r : R2} {Z : Ends} {i j : Nat} {b : Bool} {l : Addr} {xs : List V} {Q : VK}
/-- a test whose answer is known -/
theorem s_ifT (hO : Own K G H os) (h : ET K tt σ G os b) (hb : b = true) (k : ∀ H', Own K G H' os → t Z σ H') : tIfS tt t u Z σ H := s_if hO h (fun _ => k) fun e => by rw [hb] at e; cases e
theorem s_ifF (hO : Own K G H os) (h : ET K tt σ G os b) (hb : b = false) (k : ∀ H', Own K G H' os → u Z σ H') : tIfS tt t u Z σ H := s_if hO h (fun e => by rw [hb] at e; cases e) fun _ => k
/-- l.pop() -/
theorem s_pop (hO : Own K G H os) (hl : σ[i]? = some (some (.ref l))) (hj : os[j]? = some (l, .lst (xs ++ [v]))) (ho : os.set j (l, .lst xs) = os') (k : ∀ H', Own K G H' os' → Z.nx σ H') : tDrop (tBM0 K "list" rPop (tVar i)) Z σ H :=
  ⟨.ref l, hl, .inl ⟨rfl, _, sq_of (hO.here hj)⟩, ⟨l, xs ++ [v], v, rfl, rfl, hO.here hj, by simp, by
    rw [List.dropLast_concat]
    have h2 := hO.put hj (o' := .lst xs)
    rw [ho] at h2
    exact k _ h2⟩⟩
/-- l[n] = e -/
theorem s_setL {n : Nat} (hO : Own K G H os) (h : EV K te σ G os d) (hl : σ[i]? = some (some (.ref l))) (hn : EV K tb σ G os (.int (n : Int))) (hj : os[j]? = some (l, .lst xs)) (hz : n < xs.length)
    (k : ∀ v G' H', Ex G G' → Own K G' H' (os.set j (l, .lst (xs.set n v))) → Is K G' v d → Z.nx σ H') : tAsg te (gSub (tVar i) tb rSetL) Z σ H :=
  h G (Ex.refl _) H hO _ fun v G' H' e hO' hv => ⟨.ref l, hl, hn G' e H' hO' _ fun v1 G1 H1 e1 hO1 hv1 => by
    cases hv1
    refine ⟨l, xs, n, n, rfl, rfl, hO1.here hj, ?_, k v G1 _ (e.trans e1) (hO1.put hj) (hv.mono e1)⟩
    unfold ixN
    rw [if_pos (Int.natCast_nonneg n), if_pos (by omega), Int.toNat_natCast]⟩
/-- over a text, sign by sign -/
theorem s_forS {w : Str} (hO : Own K G H os) (h : EV K te σ G os (.str w)) (Pv : Nat → L2.St → Hp → Prop) (h0 : ∀ H', Own K G H' os → Pv 0 σ H')
    (hs : ∀ (m : Nat) (c : Nat) σ' H', w.cps[m]? = some c → Pv m σ' H' → t { Z with nx := Pv (m + 1), ct := Pv (m + 1), bk := Z.nx } (σ'.set j (some (.str ⟨#[c]⟩))) H') (hd : ∀ σ' H', Pv w.cps.size σ' H' → Z.nx σ' H') : tFor (iAny K te) (gName j) t Z σ H :=
  h G (Ex.refl _) H hO _ fun v G' H' e hO' hv => by
    cases hv
    refine .inr <| .inr ⟨w, rfl, fun m n σ1 H1 => n = w.cps.size - m ∧ m ≤ w.cps.size ∧ Pv m σ1 H1, ⟨_, rfl, Nat.zero_le _, h0 H' (hO'.weak e)⟩, ?_⟩
    rintro m n σ1 H1 ⟨rfl, hm, p⟩
    by_cases hlt : m < w.cps.size
    · refine .inr ⟨hlt, Pv (m + 1), fun σ2 H2 p2 => ⟨w.cps.size - (m + 1), by omega, rfl, hlt, p2⟩, fun x H2 hy => ?_⟩
      obtain ⟨rfl, c, hc, rfl⟩ := hy
      exact hs m c σ1 _ hc p
    · have : m = w.cps.size := by omega
      subst this
      exact .inl ⟨Nat.le_refl _, hd σ1 H1 p⟩
end

/-! ## promises: a new list that the caller owns; none at all -/
def PrO (K : PySem.W.Frag) (P : List D → List D → Prop) : Sp := fun vs H Q _ => ∃ G os ds es, Own K G H os ∧ IsA K G vs ds ∧ P ds es ∧ ∀ l xs G' H', Ex G G' → Own K G' H' ((l, .lst xs) :: os) → IsA K G' xs es → Q (.ref l) H'
section
variable {P : Program} {w : World} {K : PySem.W.Frag} {mg : Str → Option Value} {base : Heap} {x : Str} {st : Stmt} {N ps : List Str} {k : Nat}
theorem Fn.own {P' : List D → List D → Prop} (A : At K mg x st) (S : FnScope N ps (defScope st)) (hb : ∀ (kV doc pm : Value) (an : Option Addr) (cdv ct : Value) (us : List Value), us.length = ps.length → bindArgs (PySem.W.fnOf x x (defArgs st) (defBody st) (defScope st) .none kV doc pm an cdv ct) ⟨us, []⟩ = pure (ps.zip us)) (len : ∀ ds d, P' ds d → ds.length = ps.length)
    (hbody : ∀ (f : Addr) (cdv : Value) (A : Around) (outer : List Env) (s : Shared) (H : Hp) (E : XK), Room k (A.deeper (envOfC x (defScope st) s.heap.objs.size f cdv)) →
      ∃ t, PSs (cxOf CX0 P w K mg base N x (defScope st) f cdv A outer s H E).nox (defBody st) t ∧
        ∀ (G : Hp) (os : List (Addr × HO)) (ds es : List D) (vs : List V) (Q : VK), Own K G H os → IsA K G vs ds → P' ds es → (∀ l xs G' H', Ex G G' → Own K G' H' ((l, .lst xs) :: os) → IsA K G' xs es → Q (.ref l) H') → t { nx := fun _ H' => Q .non H', rt := Q } (start N vs) H) : Fn P w K mg base x (k + 1) ps (PrO K P') := by
  refine Fn.mk' A S hb (fun vs H Q E h => ?_) fun f cdv A outer s H vs Q E hr h => ?_
  · obtain ⟨G, os, ds, d, _, hv, hp, _⟩ := h
    rw [hv.length]
    exact len ds d hp
  · obtain ⟨G, os, ds, d, hO, hv, hp, q⟩ := h
    obtain ⟨t, h1, h2⟩ := hbody f cdv A outer s H E hr
    exact ⟨t, h1, h2 G os ds d vs Q hO hv hp q⟩
/-- the promise of a def that is never called -/
theorem Fn.void {P' : List D → D → Prop} (A : At K mg x st) (hb : ∀ (kV doc pm : Value) (an : Option Addr) (cdv ct : Value) (us : List Value), us.length = ps.length → bindArgs (PySem.W.fnOf x x (defArgs st) (defBody st) (defScope st) .none kV doc pm an cdv ct) ⟨us, []⟩ = pure (ps.zip us)) (hv : ∀ ds d, ¬ P' ds d) : Fn P w K mg base x k ps (Pr K P') := by
  obtain ⟨f, fd, F, g⟩ := A
  exact ⟨f, fd, ⟨fun vs H Q E ⟨_, _, ds, d, _, _, h, _⟩ => (hv ds d h).elim, fun A outer s H args us vs Q E hr e0 hb' hvs ⟨_, _, ds, d, _, _, h, _⟩ => (hv ds d h).elim⟩, g, F.kp, F.bindsN hb, let ⟨oc, od, _, _, _, _, _, _, _, osl, _, lk, _⟩ := F.ex; ⟨oc, od, osl, lk⟩⟩
end
section
variable {K : PySem.W.Frag} {σ : L2.St} {G G0 H : Hp} {os os0 : List (Addr × HO)} {ta : TA} {te : TE} {ds es : List D} {P : List D → List D → Prop} {E : XK} {Z : Ends} {Q : VK} {l : Addr} {xs : List V} {i : Nat}
theorem en_call (h : EA K ta σ G os ds) (p : P ds es) : EN K (tCall (PrO K P) [] E ta) σ G os es := fun G1 e H hO Q q =>
  h G1 e H hO _ fun vs G2 H2 e2 hO2 hv => ⟨G2, os, ds, es, hO2, by rw [List.append_nil]; exact hv, p, fun l xs G' H' e' hO' hv' => q l xs G' H' (e2.trans e') hO' hv'⟩
/-- return of a new list; of an owned one -/
theorem s_outN {ms : List (Addr × HO)} (k : ∀ l xs G' H', Ex G0 G' → Own K G' H' ((l, .lst xs) :: os0) → IsA K G' xs es → Q (.ref l) H') (hO : Own K G H (ms ++ os0)) (e : Ex G0 G) (hQ : Z.rt = Q) (h : EN K te σ G (ms ++ os0) es) : tRet te Z σ H :=
  h G (Ex.refl _) H hO _ fun l xs G' H' e' hO' hx => by
    rw [hQ]
    refine k l xs G' H' (e.trans e') ?_ hx
    have hp : Own K G' H' (ms ++ ((l, .lst xs) :: os0)) := hO'.perm (by simpa using (List.perm_middle (a := (l, HO.lst xs)) (l₁ := ms) (l₂ := os0)).symm)
    exact hp.dropN
theorem s_outO {ms : List (Addr × HO)} (k : ∀ l xs G' H', Ex G0 G' → Own K G' H' ((l, .lst xs) :: os0) → IsA K G' xs es → Q (.ref l) H') (hO : Own K G H ((l, .lst xs) :: ms ++ os0)) (e : Ex G0 G) (hQ : Z.rt = Q) (hv : σ[i]? = some (some (.ref l))) (hx : IsA K G xs es) : tRet (tVar i) Z σ H :=
  ⟨.ref l, hv, by
    rw [hQ]
    have hp : Own K G H (ms ++ ((l, .lst xs) :: os0)) := hO.perm (by simpa using (List.perm_middle (a := (l, HO.lst xs)) (l₁ := ms) (l₂ := os0)).symm)
    exact k l xs G H e hp.dropN hx⟩
end

/-! ## the universal rules, from the parts -/
section
variable {K : PySem.W.Frag} {σ : L2.St} {G G' H : Hp} {os : List (Addr × HO)} {ta tb te : TE} {x y z d : D} {v f : V} {r r' : R2} {l : Addr} {o : HO}
theorem RB.inl (h : RB K r x y z) : RB K (fun x y H Q => r x y H Q ∨ r' x y H Q) x y z := fun G H os v w hO hv hw Q q => .inl (h G H os v w hO hv hw Q q)
theorem RB.inr (h : RB K r' x y z) : RB K (fun x y H Q => r x y H Q ∨ r' x y H Q) x y z := fun G H os v w hO hv hw Q q => .inr (h G H os v w hO hv hw Q q)
theorem ru_addI {i j : Int} : RB K (rAddU K) (.int i) (.int j) (.int (i + j)) := rb_ii.inl
theorem ru_addS {a b : Str} (h : a.length + b.length ≤ 1000000) : RB K (rAddU K) (.str a) (.str b) (.str (a ++ b)) := (rb_addS h).inl.inr
theorem ru_div {i j : Int} (h : CDiv i j) : RB K rDivU (.int i) (.int j) (.int (i / j)) := (rb_ci h).inl
theorem ru_divW {i j : Int} (h : CDivW i j) : RB K rDivU (.int i) (.int j) (.int (i / j)) := (rb_ci h).inr
theorem ru_mul {i j : Int} (h : CMul i j) : RB K rMulU (.int i) (.int j) (.int (i * j)) := (rb_ci h).inl
theorem ru_mulW {i j : Int} (h : CMulW i j) : RB K rMulU (.int i) (.int j) (.int (i * j)) := (rb_ci h).inr
theorem ru_ixL {ds : List D} {i : Int} (e : atI ds i = some x) : RB K (rIx K) (.lst ds) (.int i) x := (rb_ixL e).inl
theorem ru_ixF {ds : List D} {i : Int} (e : atI ds i = some x) : RB K (rIx K) (.frl ds) (.int i) x := (rb_ixF e).inl
theorem ru_ixT {ds : List D} {i : Int} (e : atI ds i = some x) : RB K (rIx K) (.tup ds) (.int i) x := (rb_ixT e).inl.inr
theorem ru_ixS {w : Str} {i : Int} {c : Nat} (hl : w.length ≤ 100000) (e : atI w.cps.toList i = some c) : RB K (rIx K) (.str w) (.int i) (.str ⟨#[c]⟩) := (rb_ixS hl e).inr.inr
theorem ru_inTS {s : Str} {ss : List Str} : RB K (rInU K false) (.str s) (.tup (ss.map D.str)) (.bl (decide (s ∈ ss))) := rb_inTS.inl
theorem ru_inLS {s : Str} {ss : List Str} : RB K (rInU K false) (.str s) (.lst (ss.map D.str)) (.bl (decide (s ∈ ss))) := rb_inLS.inl
theorem ru_niTS {s : Str} {ss : List Str} : RB K (rInU K true) (.str s) (.tup (ss.map D.str)) (.bl (!decide (s ∈ ss))) := rb_niTS.inl
theorem ru_niLS {s : Str} {ss : List Str} : RB K (rInU K true) (.str s) (.lst (ss.map D.str)) (.bl (!decide (s ∈ ss))) := rb_niLS.inl
theorem ru_inT {ds : List D} {fs : List V} (hx : flatD x = some f) (hd : flatDs ds = some fs) (h1 : flatV f = true) (h2 : fs.all flatV = true) : RB K (rInU K false) x (.tup ds) (.bl (inV f fs)) := (rb_inT hx hd h1 h2).inl
theorem ru_niT {ds : List D} {fs : List V} (hx : flatD x = some f) (hd : flatDs ds = some fs) (h1 : flatV f = true) (h2 : fs.all flatV = true) : RB K (rInU K true) x (.tup ds) (.bl (!inV f fs)) := (rb_inT hx hd h1 h2).inl
theorem ru_inL {ds : List D} {fs : List V} (hx : flatD x = some f) (hd : flatDs ds = some fs) (h1 : flatV f = true) (h2 : fs.all flatV = true) : RB K (rInU K false) x (.lst ds) (.bl (inV f fs)) := (rb_inL hx hd h1 h2).inl
theorem ru_niL {ds : List D} {fs : List V} (hx : flatD x = some f) (hd : flatDs ds = some fs) (h1 : flatV f = true) (h2 : fs.all flatV = true) : RB K (rInU K true) x (.lst ds) (.bl (!inV f fs)) := (rb_inL hx hd h1 h2).inl
theorem ru_inC {c : Nat} {w : Str} : RB K (rInU K false) (.str ⟨#[c]⟩) (.str w) (.bl (decide (c ∈ w.cps.toList))) := RB.inr (rb_val (fun _ => .bl _) fun _ _ _ _ hv hw _ _ q => by cases hv; cases hw; exact ⟨c, w, rfl, rfl, q⟩)
theorem ru_niC {c : Nat} {w : Str} : RB K (rInU K true) (.str ⟨#[c]⟩) (.str w) (.bl (!decide (c ∈ w.cps.toList))) := RB.inr (rb_val (fun _ => .bl _) fun _ _ _ _ hv hw _ _ q => by cases hv; cases hw; exact ⟨c, w, rfl, rfl, q⟩)
theorem lu_L {ds : List D} : RC K (rLenU K) [.lst ds] (.int ds.length) := fun G H os vs hO hv Q q => by
  cases hv with
  | cons h k =>
    cases k
    obtain ⟨a, xs, rfl, h, k⟩ := h.lst_inv
    exact ⟨_, xs.length, rfl, .inl ⟨xs, sq_of (hO.ex _ _ h), rfl⟩, by rw [k.length]; exact q _ G H (Ex.refl _) hO (.int _)⟩
theorem lu_F {ds : List D} : RC K (rLenU K) [.frl ds] (.int ds.length) := fun G H os vs hO hv Q q => by
  cases hv with
  | cons h k =>
    cases k
    obtain ⟨a, xs, rfl, h, k⟩ := h.frl_inv
    exact ⟨_, xs.length, rfl, .inl ⟨xs, ex_l hO.ex h, rfl⟩, by rw [k.length]; exact q _ G H (Ex.refl _) hO (.int _)⟩
theorem lu_T {ds : List D} : RC K (rLenU K) [.tup ds] (.int ds.length) := fun G H os vs hO hv Q q => by
  cases hv with
  | cons h k =>
    cases k
    obtain ⟨a, xs, rfl, h, k⟩ := h.tup_inv
    exact ⟨_, xs.length, rfl, .inr ⟨xs, ex_t hO.ex h, rfl⟩, by rw [k.length]; exact q _ G H (Ex.refl _) hO (.int _)⟩
theorem lu_S {w : Str} (h : w.length ≤ 1000000) : RC K (rLenU K) [.str w] (.int w.length) := fun G H os vs hO hv Q q => by
  cases hv with
  | cons h1 k => cases k; cases h1; exact ⟨_, w.length, rfl, ⟨by have := sizeLine_eq; omega, rfl⟩, q _ G H (Ex.refl _) hO (.int _)⟩
theorem en_catU {ds es : List D} (ha : EV K ta σ G os (.lst ds)) (hb : EV K tb σ G os (.lst es)) (hz : ds.length + es.length ≤ 100000) : EN K (tOp (rAddU K) ta tb) σ G os (ds ++ es) := fun G1 e H hO Q q =>
  ha G1 e H hO _ fun v G2 H2 e2 hO2 hv => hb G2 (e.trans e2) H2 hO2 _ fun w G3 H3 e3 hO3 hw => by
    obtain ⟨a, xs, rfl, h1, k1⟩ := hv.lst_inv
    obtain ⟨b, ys, rfl, h2, k2⟩ := hw.lst_inv
    exact .inr <| .inr <| .inl ⟨a, b, xs, ys, rfl, rfl, hO3.ex _ _ (e3 _ _ h1), hO3.ex _ _ h2, sz_of (by rw [k1.length, k2.length]; exact hz), fun p hp => q p _ G3 _ (e2.trans e3) (hO3.add hp) ((k1.mono e3).append k2)⟩
/-- an owned object lent to the base while a flat value comes about -/
theorem ev_lend (hf : flatD d = some f) (h : ∀ G', Ex G G' → Ex G' (upd G' l o) → EV K te σ (upd G' l o) os d) : EV K te σ G ((l, o) :: os) d := fun G1 e H hO Q q =>
  h G1 e hO.freezeEx _ (Ex.refl _) H hO.freeze Q fun v G' H' e' hO' hv => q v G1 H' (Ex.refl _) ((hO'.weak e').thaw (hO.out (l, o) (List.mem_cons_self ..))) (by
    have := flat_inv hf hv
    subst this
    cases d <;> simp [flatD] at hf <;> subst hf <;> constructor)
theorem et_lend {tt : TT} {b : Bool} (h : ∀ G', Ex G G' → Ex G' (upd G' l o) → ET K tt σ (upd G' l o) os b) : ET K tt σ G ((l, o) :: os) b := fun G1 e H hO Q q =>
  h G1 e hO.freezeEx _ (Ex.refl _) H hO.freeze Q fun H' hO' => q H' (hO'.thaw (hO.out (l, o) (List.mem_cons_self ..)))
end

/-! ## isinstance of data -/
def isKinds : List String := ["NoneType", "bool", "int", "str", "list", "tuple", "dict"]
def isTys : List String := ["int", "bool", "str", "list", "tuple", "dict"]
def isiB (x : D) (T : String) : Bool := kindD x == T || (kindD x == "bool" && T == "int")
theorem isi_tab : ∀ k ∈ isKinds, ∀ T ∈ isTys, kitB k T = some (k == T || (k == "bool" && T == "int")) := by decide +kernel
theorem isi_ne : ∀ k ∈ isKinds, k ≠ "" := by decide +kernel
theorem rc_isiU {K : PySem.W.Frag} {x : D} {T : String} (hk : isKinds.contains (kindD x) = true) (hT : isTys.contains T = true) : RC K (rIsi K) [x, .ty T] (.bl (isiB x T)) := by
  have h1 : kindD x ∈ isKinds := List.contains_iff_mem.mp hk
  have h2 : T ∈ isTys := List.contains_iff_mem.mp hT
  exact rc_isiD (isi_ne _ h1) (isi_tab _ h1 _ h2)

/-! ## the head with one Bool more -/
def obsB (n : Nat) (fa : List He.Fa) (fn : List He.DefD) (ex : PySem.W.Frag → Bool) (g : Addr → Option Obj) : He.AlD × Bool := (He.obsD fa fn (He.frG g (He.asD g n)), ex (He.frG g (He.asD g n)))
def hookB (n : Nat) (fa : List He.Fa) (fn : List He.DefD) (ex : PySem.W.Frag → Bool) : PySem.W.Hook where
  α := He.AlD × Bool
  obs := fun s => obsB n fa fn ex s.heap.get?
  val := fun _ => (He.valD fn, true)
  says := fun _ h => ∃ K : PySem.W.Frag, K.In h ∧ He.SaysD fa fn K ∧ ex K = true
  of := fun _ _ e => ⟨_, He.frG_in, congrArg (fun z : He.AlD × Bool => z.1) e, congrArg (fun z : He.AlD × Bool => z.2) e⟩
  keeps := fun _ _ _ ⟨K, hK, c⟩ k => ⟨K, PySem.W.Frag.In.keeps hK k, c⟩
theorem obsB_eq {n : Nat} {fa : List He.Fa} {fn : List He.DefD} {ex : PySem.W.Frag → Bool} {g : Addr → Option Obj} {s : Shared} (h : ∀ a, g a = s.heap.get? a) : obsB n fa fn ex g = (hookB n fa fn ex).obs s := by
  have e : g = s.heap.get? := funext h
  rw [e] <;> rfl

/-! ## dicts as data -/
def keyD : Key → D
  | .inl i => .int i
  | .inr s => .str s
def valD (ds : List (Key × D)) (k : Key) : Option D := (ds.find? fun kv => decide (kv.1 = k)).map (·.2)
section
variable {K : PySem.W.Frag} {σ : L2.St} {G G' H : Hp} {os : List (Addr × HO)} {ta tb te td ty : TE} {x y z d : D} {v f : V}
theorem IsK.get : ∀ {xs : List (Key × V)} {ds : List (Key × D)} {k : Key} {d : D}, IsK K H xs ds → valD ds k = some d → ∃ v, valV xs k = some v ∧ Is K H v d
  | _, _, _, _, .nil, e => by simp [valD] at e
  | _, _, k, d, .cons (f := f) h t, e => by
    unfold valD at e
    rw [List.find?_cons] at e
    unfold valV
    rw [List.find?_cons]
    by_cases q : f = k
    · have hb : decide (f = k) = true := decide_eq_true q
      rw [hb] at e
      simp at e
      subst e
      exact ⟨_, by rw [hb]; rfl, h⟩
    · have hb : decide (f = k) = false := decide_eq_false q
      rw [hb] at e
      obtain ⟨v, h1, h2⟩ := IsK.get (k := k) t e
      exact ⟨v, by rw [hb]; exact h1, h2⟩
theorem IsK.none : ∀ {xs : List (Key × V)} {ds : List (Key × D)} {k : Key}, IsK K H xs ds → valD ds k = none → valV xs k = none
  | _, _, _, .nil, _ => rfl
  | _, _, k, .cons (f := f) h t, e => by
    unfold valD at e
    rw [List.find?_cons] at e
    unfold valV
    rw [List.find?_cons]
    by_cases q : f = k
    · have hb : decide (f = k) = true := decide_eq_true q
      rw [hb] at e
      simp at e
    · have hb : decide (f = k) = false := decide_eq_false q
      rw [hb] at e ⊢
      exact IsK.none (k := k) t e
theorem IsK.keys : ∀ {xs : List (Key × V)} {ds : List (Key × D)}, IsK K H xs ds → xs.map (·.1) = ds.map (·.1)
  | _, _, .nil => rfl
  | _, _, .cons h t => congrArg (_ :: ·) (IsK.keys t)
theorem Is.dct_inv {ds : List (Key × D)} (h : Is K H v (.dct ds)) : ∃ a xs, v = .ref a ∧ H a = some (.dK xs) ∧ IsK K H xs ds := by
  cases h with
  | dct h k => exact ⟨_, _, rfl, h, k⟩
theorem keyD_inv {k : Key} (h : Is K H v (keyD k)) : v = kV k := by
  cases k <;> cases h <;> rfl
theorem ev_dget {ds : List (Key × D)} {k : Key} (ha : EV K td σ G os (.dct ds)) (hb : EV K ty σ G os (keyD k)) (hk : valD ds k = some d) : EV K (tDGet td ty) σ G os d := fun G1 e H hO Q q =>
  ha G1 e H hO _ fun v G2 H2 e2 hO2 hv => hb G2 (e.trans e2) H2 hO2 _ fun w G3 H3 e3 hO3 hw => by
    obtain ⟨a, xs, rfl, h, t⟩ := hv.dct_inv
    have := keyD_inv hw
    subst this
    obtain ⟨u, hu, iu⟩ := (t.mono e3).get hk
    exact ⟨a, u, rfl, by rw [← hu]; exact DGet.k (hO3.ex _ _ (e3 _ _ h)), q u G3 H3 (e2.trans e3) hO3 iu⟩
theorem mergeK_new : ∀ (more kvs : List (Key × V)), (kvs.map (·.1) ++ more.map (·.1)).Nodup → mergeK kvs more = kvs ++ more
  | [], kvs, _ => by simp [mergeK]
  | p :: r, kvs, h => by
    show mergeK (putK kvs p.1 p.2) r = _
    have hn : (kvs.any fun kv => decide (kv.1 = p.1)) = false := by
      rw [List.any_eq_false]
      intro kv hkv z
      rw [List.map_cons] at h
      have := (List.nodup_append.mp h).2.2 kv.1 (List.mem_map_of_mem hkv) p.1 (List.mem_cons_self ..)
      exact this (of_decide_eq_true z)
    have e : putK kvs p.1 p.2 = kvs ++ [p] := by
      unfold putK
      rw [hn]
      simp
    rw [e, mergeK_new r (kvs ++ [p]) (by simpa using h)]
    simp
theorem pairs_kvs : ∀ {vs : List (V × V)} {kds : List (Key × D)}, IsA K H (vs.map (·.1)) (kds.map fun kd => keyD kd.1) → IsA K H (vs.map (·.2)) (kds.map (·.2)) → ∃ kvs : List (Key × V), vs = kvs.map (fun kv => (kV kv.1, kv.2)) ∧ IsK K H kvs kds
  | [], [], _, _ => ⟨[], rfl, .nil⟩
  | (a, b) :: vs, (k, d) :: kds, h1, h2 => by
    cases h1 with
    | cons a1 a2 => cases h2 with
      | cons b1 b2 =>
        obtain ⟨kvs, e, t⟩ := pairs_kvs a2 b2
        have := keyD_inv a1
        subst this
        exact ⟨(k, b) :: kvs, by rw [e]; rfl, .cons b1 t⟩
  | [], _ :: _, h1, _ => by cases h1
  | _ :: _, [], h1, _ => by cases h1
theorem ev_disp {trs : List (TE × TE)} {kds : List (Key × D)} (h : ∀ p : Addr × HO, EPs K trs σ G (p :: os) (kds.map fun kd => (keyD kd.1, kd.2))) (hn : (kds.map (·.1)).Nodup) (hl : kds.length ≤ 15) : EV K (tDisp trs) σ G os (.dct kds) := fun G1 e H hO Q q => by
  intro p hp
  refine h (p, .dK []) G1 e _ (hO.add hp) _ fun vs G2 H2 e2 hO2 k1 k2 => ?_
  rw [List.map_map] at k1 k2
  obtain ⟨kvs, ev, t⟩ := pairs_kvs (kds := kds) k1 k2
  have hlen : kvs.length = kds.length := by
    have := congrArg List.length t.keys
    rw [List.length_map, List.length_map] at this
    exact this
  refine ⟨hO2.here (j := 0) rfl, kvs, ev, by omega, ?_⟩
  have em : mergeK [] kvs = kvs := mergeK_new kvs [] (by rw [List.map_nil, List.nil_append, t.keys]; exact hn)
  rw [em]
  have h3 : Own K G2 (upd H2 p (.dK kvs)) ((p, .dK kvs) :: os) := hO2.put0
  exact q _ _ _ (e2.trans h3.freezeEx) h3.freeze (.dct upd_same (t.mono h3.freezeEx))
end
/-! ## dict displays with their keys; a loop over a list or a tuple; filters -/
section
variable {K : PySem.W.Frag} {σ σ' : L2.St} {G G' G0 H : Hp} {os : List (Addr × HO)} {ta tb te td ty tl : TE} {tt : TT} {t : TS} {x y z d : D} {v f : V} {Z : Ends} {j : Nat} {vs : List Nat}
theorem ev_dgetS {ds : List (Key × D)} {k : Str} (ha : EV K td σ G os (.dct ds)) (hb : EV K ty σ G os (.str k)) (hk : valD ds (.inr k) = some d) : EV K (tDGet td ty) σ G os d := ev_dget (k := .inr k) ha hb hk
theorem ev_dgetI {ds : List (Key × D)} {k : Int} (ha : EV K td σ G os (.dct ds)) (hb : EV K ty σ G os (.int k)) (hk : valD ds (.inl k) = some d) : EV K (tDGet td ty) σ G os d := ev_dget (k := .inl k) ha hb hk
def EPk (K : PySem.W.Frag) (trs : List (TE × TE)) (σ : L2.St) (G : Hp) (os : List (Addr × HO)) (kds : List (Key × D)) : Prop := EPs K trs σ G os (kds.map fun kd => (keyD kd.1, kd.2))
theorem epk_nil : EPk K [] σ G os [] := eps_nil
theorem epk_S {trs : List (TE × TE)} {kds : List (Key × D)} {s : Str} (ha : EV K ta σ G os (.str s)) (hb : EV K tb σ G os y) (hr : EPk K trs σ G os kds) : EPk K ((ta, tb) :: trs) σ G os ((.inr s, y) :: kds) := eps_cons (x := .str s) ha hb hr
theorem epk_I {trs : List (TE × TE)} {kds : List (Key × D)} {s : Int} (ha : EV K ta σ G os (.int s)) (hb : EV K tb σ G os y) (hr : EPk K trs σ G os kds) : EPk K ((ta, tb) :: trs) σ G os ((.inl s, y) :: kds) := eps_cons (x := .int s) ha hb hr
theorem ev_dispK {trs : List (TE × TE)} {kds : List (Key × D)} (h : ∀ p : Addr × HO, EPk K trs σ G (p :: os) kds) (hn : (kds.map (·.1)).Nodup) (hl : kds.length ≤ 15) : EV K (tDisp trs) σ G os (.dct kds) := ev_disp h hn hl
def sqD (b : Bool) (ds : List D) : D := if b then .tup ds else .lst ds
theorem s_forQ {g : TG} {b : Bool} {ds : List D} (hO : Own K G H os) (h : EV K te σ G os (sqD b ds)) (Pv : Hp → Nat → L2.St → Hp → Prop) (h0 : ∀ G' H', Ex G G' → Own K G' H' os → Pv G' 0 σ H') (hl : ∀ G' m σ' H', Pv G' m σ' H' → Ex G' H')
    (hs : ∀ G' m x v σ' H', Ex G G' → ds[m]? = some x → Is K G' v x → Pv G' m σ' H' → g v σ' H' fun σ2 H2 => t { Z with nx := Pv G' (m + 1), ct := Pv G' (m + 1), bk := Z.nx } σ2 H2) (hd : ∀ G' σ' H', Ex G G' → Pv G' ds.length σ' H' → Z.nx σ' H') : tFor (iAny K te) g t Z σ H := by
  cases b with
  | true => exact s_forT hO h Pv h0 hl hs hd
  | false => exact s_forL hO h Pv h0 hl hs hd
/-- [e for x in xs if c] -/
theorem gat_if {G1 H1 : Hp} {Dl : Addr} {n : Nat} {f : Nat → D} {b : Nat → Bool} {σ2 : L2.St} (p : Gat K G1 os Dl (((List.range n).filter b).map f) H1) (hz : n < 100000) (ht : ∀ p : Addr × HO, ET K tt σ2 G1 (p :: os) (b n)) (he : b n = true → ∀ p : Addr × HO, EV K te σ2 G1 (p :: os) (f n)) :
    tt σ2 H1 fun c H3 => if c = true then te σ2 H3 fun y H4 => ∃ acc, H4 Dl = some (.lst acc) ∧ acc.length < sizeLine ∧ Gat K G1 os Dl (((List.range (n + 1)).filter b).map f) (upd H4 Dl (.lst (acc ++ [y]))) else Gat K G1 os Dl (((List.range (n + 1)).filter b).map f) H3 := by
  obtain ⟨G', acc, e, hO, ha⟩ := p
  have hl : (((List.range n).filter b).map f).length ≤ n := by
    rw [List.length_map]
    exact Nat.le_trans (List.length_filter_le _ _) (by rw [List.length_range] <;> exact Nat.le_refl _)
  refine ht _ G' e H1 hO _ fun H3 hO3 => ?_
  cases hb : b n with
  | true =>
    refine iteT ?_
    rw [List.range_succ, List.filter_append, show [n].filter b = [n] by simp [hb], List.map_append, List.map_singleton]
    exact gat_turn ⟨G', acc, e, hO3, ha⟩ (by omega) (he hb)
  | false =>
    refine iteF ?_
    rw [List.range_succ, List.filter_append, show [n].filter b = [] by simp [hb], List.append_nil]
    exact ⟨G', acc, e, hO3, ha⟩
theorem en_lcLF {g : TG} {ds : List D} {f : Nat → D} {b : Nat → Bool} (h : EV K tl σ G os (.lst ds)) (hz : ds.length ≤ 90000)
    (he : ∀ (m : Nat) (x : D) (v : V) (G' H' : Hp) (R : L2.St → Hp → Prop), Ex G G' → Ex G' H' → ds[m]? = some x → Is K G' v x → (∀ σ2, wipe σ2 vs = wipe σ vs → (∀ p : Addr × HO, ET K tt σ2 G' (p :: os) (b m)) → (b m = true → ∀ p : Addr × HO, EV K te σ2 G' (p :: os) (f m)) → R σ2 H') → g v (wipe σ vs) H' R) : EN K (tLc (iAny K tl) g tt te vs) σ G os (((List.range ds.length).filter b).map f) := fun G1 e H hO Q q =>
  h G1 e H hO _ fun v G2 H2 e2 hO2 hv => by
    obtain ⟨a, xs, rfl, hx, hk⟩ := hv.lst_inv
    refine .inl ⟨a, rfl, ⟨xs, sq_of (hO2.ex _ _ hx)⟩, fun Dl hD => lc_list (K := K) (a := a) (xs := xs) (fun m H' => Gat K G2 os Dl (((List.range m).filter b).map f) H') ⟨G2, [], Ex.refl _, hO2.add hD, .nil⟩ (fun m H' _ p => ?_) (fun m v1 H1 hm p => ?_) (fun H' p => ?_)⟩
    · obtain ⟨G', acc, e', hO', _⟩ := p
      exact sq_of (e'.trans hO'.ex _ _ hx)
    · obtain ⟨x, hx, iv⟩ := hk.getV hm
      have hlt : m < ds.length := (List.getElem?_eq_some_iff.mp hx).1
      have eH : Ex G2 H1 := let ⟨G', acc, e', hO', _⟩ := p; e'.trans hO'.ex
      exact he m x v1 G2 H1 _ (e.trans e2) eH hx iv fun σ2 hw hT hE => ⟨hw, gat_if p (by omega) hT hE⟩
    · obtain ⟨G', acc, e', hO', ha⟩ := p
      rw [hk.length] at ha
      exact q _ _ _ H' (e2.trans e') hO' ha
theorem en_lcTF {g : TG} {ds : List D} {f : Nat → D} {b : Nat → Bool} (h : EV K tl σ G os (.tup ds)) (hz : ds.length ≤ 90000)
    (he : ∀ (m : Nat) (x : D) (v : V) (G' H' : Hp) (R : L2.St → Hp → Prop), Ex G G' → Ex G' H' → ds[m]? = some x → Is K G' v x → (∀ σ2, wipe σ2 vs = wipe σ vs → (∀ p : Addr × HO, ET K tt σ2 G' (p :: os) (b m)) → (b m = true → ∀ p : Addr × HO, EV K te σ2 G' (p :: os) (f m)) → R σ2 H') → g v (wipe σ vs) H' R) : EN K (tLc (iAny K tl) g tt te vs) σ G os (((List.range ds.length).filter b).map f) := fun G1 e H hO Q q =>
  h G1 e H hO _ fun v G2 H2 e2 hO2 hv => by
    obtain ⟨a, xs, rfl, hx, hk⟩ := hv.tup_inv
    refine .inr <| .inl ⟨a, rfl, ⟨xs, ex_t hO2.ex hx⟩, fun Dl hD => lc_tup (K := K) (a := a) (xs := xs) (fun m H' => Gat K G2 os Dl (((List.range m).filter b).map f) H') ⟨G2, [], Ex.refl _, hO2.add hD, .nil⟩ (fun m H' _ p => ?_) (fun m v1 H1 hm p => ?_) (fun H' p => ?_)⟩
    · obtain ⟨G', acc, e', hO', _⟩ := p
      exact ex_t (e'.trans hO'.ex) hx
    · obtain ⟨x, hx, iv⟩ := hk.getV hm
      have hlt : m < ds.length := (List.getElem?_eq_some_iff.mp hx).1
      have eH : Ex G2 H1 := let ⟨G', acc, e', hO', _⟩ := p; e'.trans hO'.ex
      exact he m x v1 G2 H1 _ (e.trans e2) eH hx iv fun σ2 hw hT hE => ⟨hw, gat_if p (by omega) hT hE⟩
    · obtain ⟨G', acc, e', hO', ha⟩ := p
      rw [hk.length] at ha
      exact q _ _ _ H' (e2.trans e') hO' ha
end
end Cm

namespace Rk20
open PySem PySem.Spec PyProof.Rows L2 Cm

local macro_rules | `(tactic| walk_at "ex") => `(tactic| first | exact Evl.Ex.refl _ | assumption | (refine' Evl.Ex.trans ?ha ?hb; (case hb => assumption); (case ha => walk_at "ex")))
local macro_rules | `(tactic| walk_at "is") => `(tactic| first | exact Is.int _ | exact Is.bl _ | exact Is.str _ | exact Is.non | exact Is.ty _ | assumption | (refine' Is.mono ?hE ?hI; (case hI => assumption); (case hE => walk_at "ex")))
local macro_rules | `(tactic| walk_at "sd") => `(tactic| first | omega | ((try simp only [CPow, CMul, CDiv, CDivW]); omega) | assumption)
local macro_rules | `(tactic| walk_at "ix") => `(tactic| first | assumption | rfl)
local macro_rules | `(tactic| walk_at "rb") => `(tactic| first | exact ru_addI | exact rb_ib | exact rb_eqI | exact rb_neI | exact rb_ci (by walk_at "sd") | exact ru_ixL (by walk_at "ix") | exact ru_ixF (by walk_at "ix") | exact ru_ixT (by walk_at "ix") | exact ru_ixS (by walk_at "sz") (by walk_at "ix") | exact rb_ii | exact ru_div (by walk_at "sd") | exact ru_divW (by walk_at "sd") | exact ru_mul (by walk_at "sd") | exact ru_mulW (by walk_at "sd") | exact ru_inTS | exact ru_niTS | exact ru_inLS | exact ru_niLS | exact ru_inT rfl rfl rfl rfl | exact ru_niT rfl rfl rfl rfl | exact ru_inL rfl rfl rfl rfl | exact ru_niL rfl rfl rfl rfl | exact ru_inC | exact ru_niC | exact ru_addS (by walk_at "sz") | exact rb_isD | exact rb_notD | exact rb_eqS | exact rb_neS | exact rb_eqB | exact rb_neB)
local macro_rules | `(tactic| walk_at "rc") => `(tactic| first | exact rc_int | exact rc_abs | exact rc_isiU rfl rfl | exact lu_L | exact lu_F | exact lu_T | exact lu_S (by walk_at "sz") | exact rc_min2 | exact rc_max2 | exact rc_sumR | exact rc_sum | exact rc_tupL)
local macro_rules | `(tactic| walk_at "pre") => `(tactic| first | trivial | assumption | omega | (refine ⟨?_, ?_⟩ <;> first | assumption | omega))
local macro_rules | `(tactic| walk_at "call") => `(tactic| first | assumption | exact ⟨rfl, (by walk_at "pre"), rfl⟩ | exact ⟨_, rfl, (by walk_at "pre"), rfl⟩ | exact ⟨_, _, rfl, (by walk_at "pre"), rfl⟩ | exact ⟨_, _, _, rfl, (by walk_at "pre"), rfl⟩ | exact ⟨_, _, _, _, rfl, (by walk_at "pre"), rfl⟩ | exact ⟨_, _, _, _, _, rfl, (by walk_at "pre"), rfl⟩ | exact ⟨_, _, _, _, _, _, rfl, (by walk_at "pre"), rfl⟩)
local macro_rules | `(tactic| walk_at "ea") => `(tactic| first
  | with_reducible exact ea_nil
  | ((with_reducible refine' ea_cons ?he ?hr); (case he => walk_at "ev"); (case hr => walk_at "ea")))
local macro_rules | `(tactic| walk_at "ev") => `(tactic| first
  | ((with_reducible refine' ev_c ?h); (case h => first | assumption | (intro _; walk_at "is")))
  | ((with_reducible refine' ev_var ?h1 ?h2); (case h1 => rfl); (case h2 => walk_at "is"))
  | ((with_reducible refine' ev_op ?hr ?ha ?hb); (case ha => walk_at "ev"); (case hb => walk_at "ev"); (case hr => walk_at "rb"))
  | ((with_reducible refine' ev_cb ?hr ?ha); (case ha => walk_at "ea"); (case hr => walk_at "rc"))
  | ((with_reducible refine' ev_call ?ha ?hp); (case ha => walk_at "ea"); (case hp => walk_at "call"))
  | ((with_reducible refine' ev_un ?hr ?ha); (case ha => walk_at "ev"); (case hr => exact ru_i))
  | ((with_reducible refine' ev_notV ?ha); (case ha => walk_at "ev"))
  | ((with_reducible refine' ev_andV ?ha ?hb); (case ha => walk_at "ev"); (case hb => (intro _; walk_at "ev")))
  | ((with_reducible refine' ev_orV ?ha ?hb); (case ha => walk_at "ev"); (case hb => (intro _; walk_at "ev")))
  | ((with_reducible refine' ev_tup ?ha ?hz); (case ha => walk_at "ea"); (case hz => exact Nat.le_of_ble_eq_true rfl))
  | ((with_reducible refine' ev_lst ?ha ?hz); (case ha => walk_at "ea"); (case hz => exact Nat.le_of_ble_eq_true rfl))
  | ((with_reducible refine' ev_ifI ?ht ?ha ?hb); (case ht => walk_at "et"); (case ha => (intro _; walk_at "ev")); (case hb => (intro _; walk_at "ev")))
  | ((with_reducible refine' ev_bits ?ha); (case ha => walk_at "ev"))
  | ((with_reducible refine' ev_dgetS ?ha ?hb ?hk); (case ha => walk_at "ev"); (case hb => walk_at "ev"); (case hk => walk_at "ix"))
  | ((with_reducible refine' ev_dgetI ?ha ?hb ?hk); (case ha => walk_at "ev"); (case hb => walk_at "ev"); (case hk => walk_at "ix"))
  | ((with_reducible refine' ev_dispK ?h ?hn ?hl); (case h => (intro _; walk_at "eps")); (case hn => decide); (case hl => exact Nat.le_of_ble_eq_true rfl))
  | ((with_reducible refine' ev_new ?h); (case h => walk_at "en")))
local macro_rules | `(tactic| walk_at "eps") => `(tactic| first
  | exact epk_nil
  | ((with_reducible refine' epk_S ?ha ?hb ?hr); (case ha => walk_at "ev"); (case hb => walk_at "ev"); (case hr => walk_at "eps"))
  | ((with_reducible refine' epk_I ?ha ?hb ?hr); (case ha => walk_at "ev"); (case hb => walk_at "ev"); (case hr => walk_at "eps")))
local macro_rules | `(tactic| walk_at "et") => `(tactic| first
  | ((with_reducible refine' et_tst ?h); (case h => walk_at "ev"))
  | ((with_reducible refine' et_B ?h); (case h => walk_at "ev"))
  | ((with_reducible refine' et_not ?h); (case h => walk_at "et"))
  | ((with_reducible refine' et_and ?h1 ?h2); (case h1 => walk_at "et"); (case h2 => (intro _; walk_at "et")))
  | ((with_reducible refine' et_or ?h1 ?h2); (case h1 => walk_at "et"); (case h2 => (intro _; walk_at "et"))))
local macro_rules | `(tactic| walk_at "nrm") => `(tactic| first | (dsimp only [List.set]; done) | (dsimp only [List.set]; exact rfl))
local macro_rules | `(tactic| walk_at "bl") => `(tactic| (try simp only [decide_eq_true_eq, decide_eq_false_iff_not, Bool.not_eq_true', Bool.not_eq_false', Bool.and_eq_true, Bool.and_eq_false_iff, Bool.or_eq_true, Bool.or_eq_false_iff, Int.not_lt, Int.not_le] at *))
local macro_rules | `(tactic| walk_at "st1") => `(tactic| first
  | (with_reducible refine' s_nx ?_)
  | ((with_reducible refine' s_asgE ?hO ?_); (case hO => assumption); intro _ _ _)
  | ((with_reducible refine' s_asgF ?hO ?he ?hf ?hn ?_); (case hO => assumption); (case he => walk_at "ev"); (case hf => rfl); (case hn => walk_at "nrm"); intro _ _)
  | ((with_reducible refine' s_asg ?hO ?he ?hn ?_); (case hO => assumption); (case he => walk_at "ev"); (case hn => (intro _; rfl)); intro _ _ _ _ _ _; (try dsimp only [List.set]))
  | ((with_reducible refine' s_ifI ?hx ?hO ?ht ?h1 ?hn ?_); (case hO => assumption); (case ht => walk_at "et"); (case h1 => (intro _; walk_at "ev")); (case hx => rfl); (case hn => walk_at "nrm"); intro _ _)
  | ((with_reducible refine' s_drop ?hO ?he ?_); (case hO => assumption); (case he => walk_at "ev"); intro _ _)
  | ((with_reducible refine' s_out (ms := []) ?k ?hO ?he ?hQ ?ev ?_); (case hO => assumption); (case k => assumption); (case he => walk_at "ex"); (case hQ => rfl); (case ev => walk_at "ev")))
local macro_rules | `(tactic| walk_at "st") => `(tactic| first | ((with_reducible refine' s_seq ?_); walk_at "st1") | walk_at "st1")
local macro_rules | `(tactic| walk_at "if1") => `(tactic| ((with_reducible refine' s_if ?hO ?ht ?_ ?_); (case hO => assumption); (case ht => walk_at "et")))
local macro_rules | `(tactic| walk_at "if") => `(tactic| ((with_reducible refine' s_seq ?_); walk_at "if1"))
local macro_rules | `(tactic| walk_at "seq") => `(tactic| (with_reducible refine' s_seq ?_))
local macro_rules | `(tactic| walk_at "app1") => `(tactic| ((with_reducible refine' s_appF (j := 0) ?hO ?hl ?hj ?hz ?he ?hf ?ho ?_); (case hO => assumption); (case hl => rfl); (case hj => rfl); (case he => walk_at "ev"); (case hf => rfl); (case ho => walk_at "nrm"); (case hz => walk_at "sz"); intro _ _))
local macro_rules | `(tactic| walk_at "app") => `(tactic| (walk_at "seq"; walk_at "app1"))
local macro_rules | `(tactic| walk_at "sz") => `(tactic| first | assumption | omega | ((simp only [List.length_map, List.length_nil, List.length_cons, List.length_append]); omega))
local macro_rules | `(tactic| walk_at "en") => `(tactic| first
  | ((with_reducible refine' en_lst ?ha ?hz); (case ha => walk_at "ea"); (case hz => exact Nat.le_of_ble_eq_true rfl))
  | ((with_reducible refine' en_call ?ha ?hp); (case ha => walk_at "ea"); (case hp => walk_at "call"))
  | ((with_reducible refine' en_catU ?ha ?hb ?hz); (case ha => walk_at "ev"); (case hb => walk_at "ev"); (case hz => walk_at "sz"))
  | ((with_reducible refine' en_slL ?ha ?hl ?hh); (case ha => walk_at "ev"); (case hl => walk_at "eo"); (case hh => walk_at "eo"))
  | ((with_reducible refine' en_list ?ha); (case ha => walk_at "ea")))
local macro_rules | `(tactic| walk_at "eo") => `(tactic| first | exact eo_none | ((with_reducible refine' eo_some ?h); (case h => walk_at "ev")))

local macro_rules | `(tactic| walk_at "kb") => `(tactic| first | rfl | (simp; done) | (simp [isiB, kindD, isNon]; done) | omega)
local macro_rules | `(tactic| walk_at "ifT1") => `(tactic| ((with_reducible refine' s_ifT ?hO ?ht ?hb ?_); (case hO => assumption); (case ht => walk_at "et"); (case hb => walk_at "kb"); intro _ _))
local macro_rules | `(tactic| walk_at "ifF1") => `(tactic| ((with_reducible refine' s_ifF ?hO ?ht ?hb ?_); (case hO => assumption); (case ht => walk_at "et"); (case hb => walk_at "kb"); intro _ _; (try (with_reducible refine' s_nx ?_))))
local macro_rules | `(tactic| walk_at "ifT") => `(tactic| ((with_reducible refine' s_seq ?_); walk_at "ifT1"))
local macro_rules | `(tactic| walk_at "ifF") => `(tactic| ((with_reducible refine' s_seq ?_); walk_at "ifF1"))

def topS (i : Nat) : Stmt := PySem.Challenge.pw_coremill_k20_kept_pairs.main.body.getD i (.Pass ⟨0, 0, 0, 0⟩)

abbrev s_all_orders : Stmt := topS 5
theorem sc_all_orders : FnScope [] [] (defScope s_all_orders) := ⟨rfl, rfl, rfl, by decide +kernel, rfl, by decide +kernel, by decide +kernel⟩
abbrev s_includes : Stmt := topS 6
theorem sc_includes : FnScope ["order", "other", "pair"] ["order", "other"] (defScope s_includes) := ⟨rfl, rfl, rfl, by decide +kernel, rfl, by decide +kernel, by decide +kernel⟩
abbrev s_event_reads : Stmt := topS 7
theorem sc_event_reads : FnScope ["event"] ["event"] (defScope s_event_reads) := ⟨rfl, rfl, rfl, by decide +kernel, rfl, by decide +kernel, by decide +kernel⟩
abbrev s_event_writes : Stmt := topS 8
theorem sc_event_writes : FnScope ["event"] ["event"] (defScope s_event_writes) := ⟨rfl, rfl, rfl, by decide +kernel, rfl, by decide +kernel, by decide +kernel⟩
abbrev s_kept_by_kinds : Stmt := topS 9
theorem sc_kept_by_kinds : FnScope ["order", "first", "second"] ["order", "first", "second"] (defScope s_kept_by_kinds) := ⟨rfl, rfl, rfl, by decide +kernel, rfl, by decide +kernel, by decide +kernel⟩
abbrev s_kept_by_word : Stmt := topS 10
theorem sc_kept_by_word : FnScope ["first", "second", "covered"] ["first", "second"] (defScope s_kept_by_word) := ⟨rfl, rfl, rfl, by decide +kernel, rfl, by decide +kernel, by decide +kernel⟩
abbrev s_kept_by_mask : Stmt := topS 11
theorem sc_kept_by_mask : FnScope ["mask", "first", "second", "before", "after"] ["mask", "first", "second"] (defScope s_kept_by_mask) := ⟨rfl, rfl, rfl, by decide +kernel, rfl, by decide +kernel, by decide +kernel⟩
abbrev s_kept : Stmt := topS 12
theorem sc_kept : FnScope ["order", "first", "second", "masks", "depends", "rest", "mask"] ["order", "first", "second", "masks", "depends", "rest"] (defScope s_kept) := ⟨rfl, rfl, rfl, by decide +kernel, rfl, by decide +kernel, by decide +kernel⟩
abbrev s_law_cell : Stmt := topS 14
theorem sc_law_cell : FnScope ["script", "k"] ["script", "k"] (defScope s_law_cell) := ⟨rfl, rfl, rfl, by decide +kernel, rfl, by decide +kernel, by decide +kernel⟩
abbrev s_law_mix : Stmt := topS 15
theorem sc_law_mix : FnScope ["cell", "k", "x"] ["cell", "k"] (defScope s_law_mix) := ⟨rfl, rfl, rfl, by decide +kernel, rfl, by decide +kernel, by decide +kernel⟩
abbrev s_law_draws : Stmt := topS 16
theorem sc_law_draws : FnScope ["cell", "count", "base", "rest", "small", "row", "k"] ["cell", "count", "base"] (defScope s_law_draws) := ⟨rfl, rfl, rfl, by decide +kernel, rfl, by decide +kernel, by decide +kernel⟩
abbrev s_law_number : Stmt := topS 17
theorem sc_law_number : FnScope ["x"] ["x"] (defScope s_law_number) := ⟨rfl, rfl, rfl, by decide +kernel, rfl, by decide +kernel, by decide +kernel⟩
abbrev s_law_same : Stmt := topS 18
theorem sc_law_same : FnScope ["told", "due", "k"] ["told", "due"] (defScope s_law_same) := ⟨rfl, rfl, rfl, by decide +kernel, rfl, by decide +kernel, by decide +kernel⟩
abbrev s_law_orders : Stmt := topS 19
theorem sc_law_orders : FnScope [] [] (defScope s_law_orders) := ⟨rfl, rfl, rfl, by decide +kernel, rfl, by decide +kernel, by decide +kernel⟩
abbrev s_law_event : Stmt := topS 20
theorem sc_law_event : FnScope ["kind", "word", "byte", "size", "full"] ["kind", "word", "byte", "size"] (defScope s_law_event) := ⟨rfl, rfl, rfl, by decide +kernel, rfl, by decide +kernel, by decide +kernel⟩
abbrev s_law_roles : Stmt := topS 21
theorem sc_law_roles : FnScope ["kind"] ["kind"] (defScope s_law_roles) := ⟨rfl, rfl, rfl, by decide +kernel, rfl, by decide +kernel, by decide +kernel⟩
abbrev s_law_fenced : Stmt := topS 22
theorem sc_law_fenced : FnScope ["mask", "one", "two", "ahead", "behind"] ["mask", "one", "two"] (defScope s_law_fenced) := ⟨rfl, rfl, rfl, by decide +kernel, rfl, by decide +kernel, by decide +kernel⟩
abbrev s_law_due : Stmt := topS 23
theorem sc_law_due : FnScope ["order", "first", "second", "masks", "depends", "rest", "covered", "one", "two", "mask"] ["order", "first", "second", "masks", "depends", "rest"] (defScope s_law_due) := ⟨rfl, rfl, rfl, by decide +kernel, rfl, by decide +kernel, by decide +kernel⟩
abbrev s_law_orders_told : Stmt := topS 24
theorem sc_law_orders_told : FnScope ["orders", "told", "order", "other", "due", "pair"] [] (defScope s_law_orders_told) := ⟨rfl, rfl, rfl, by decide +kernel, rfl, by decide +kernel, by decide +kernel⟩
abbrev s_law : Stmt := topS 25
theorem sc_law : FnScope ["script", "draws", "more", "size", "words", "bytes_of", "depends", "rest", "masks", "handed", "kinds", "first", "second", "order", "due", "x"] ["script"] (defScope s_law) := ⟨rfl, rfl, rfl, by decide +kernel, rfl, by decide +kernel, by decide +kernel⟩
def STRICT_L : List Str := ["RR", "WR", "WW"]
abbrev D_STRICT : D := .tup (STRICT_L.map D.str)
def TSO_L : List Str := ["RR", "WW"]
abbrev D_TSO : D := .tup (TSO_L.map D.str)
def PSO_L : List Str := ["RR"]
abbrev D_PSO : D := .tup (PSO_L.map D.str)
def LOOSE_L : List Str := []
abbrev D_LOOSE : D := .tup (LOOSE_L.map D.str)
/-- names that are the built-ins' own, and the constants of the top -/
structure Bi (K : PySem.W.Frag) (mg : Str → Option Value) : Prop where
  m_abs : mg "abs" = none
  m_bool : mg "bool" = none
  m_int : mg "int" = none
  m_isinstance : mg "isinstance" = none
  m_len : mg "len" = none
  m_list : mg "list" = none
  m_range : mg "range" = none
  m_str : mg "str" = none
  m_tuple : mg "tuple" = none
  c_STRICT : ∃ a, mg "STRICT" = some (.ref a) ∧ ∀ H, SqT K H a (STRICT_L.map V.str)
  c_TSO : ∃ a, mg "TSO" = some (.ref a) ∧ ∀ H, SqT K H a (TSO_L.map V.str)
  c_PSO : ∃ a, mg "PSO" = some (.ref a) ∧ ∀ H, SqT K H a (PSO_L.map V.str)
  c_LOOSE : ∃ a, mg "LOOSE" = some (.ref a) ∧ ∀ H, SqT K H a (LOOSE_L.map V.str)

theorem pw {w : Nat} : (1 : Int) * 2 ^ ((w : Int)).toNat = ((2 ^ w : Nat) : Int) := by
  rw [Int.one_mul, Int.toNat_natCast]; push_cast; rfl
theorem pw_pos (w : Nat) : (0 : Int) < 1 * 2 ^ ((w : Int)).toNat := by
  rw [pw]; exact_mod_cast Nat.two_pow_pos w
theorem pw_le {w : Nat} (h : w ≤ 64) : 2 ^ w ≤ 18446744073709551616 := by
  have := Nat.pow_le_pow_right (n := 2) (by decide) h
  simpa using this
theorem divW (i : Int) {w : Nat} (h : w ≤ 200) : CDivW i (1 * 2 ^ ((w : Int)).toNat) := by
  refine wide_div (b := w + 1) (pw_pos w) ?_ (by omega) (by omega)
  rw [pw, Int.natAbs_natCast]
  exact Nat.pow_lt_pow_right (by decide) (Nat.lt_succ_self w)
def nI (n : Nat) : D := .int n


abbrev P_law_cell : List D → D → Prop := fun dIn dOut => ∃ (ns : List Int) (k : Nat), dIn = [.frl (ns.map .int), .int k] ∧ (True) ∧ dOut = .int ((ns.getD k 0).natAbs : Int)
section
variable {P : Program} {w : World} {K : PySem.W.Frag} {mg : Str → Option Value} {base : Heap}
theorem ok_law_cell (B : Bi K mg) (A : At K mg "_law_cell" s_law_cell) : Fn P w K mg base "_law_cell" 1 ["script", "k"] (Pr K P_law_cell) := by
  refine Fn.mkP A sc_law_cell (fun _ _ _ _ _ _ us hl => match us, hl with | [_, _], _ => rfl) (fun ds d h => by obtain ⟨_, _, e, _⟩ := h; subst e; rfl) fun f cdv A outer s H E hr => ⟨_,
    (pss_cons (ps_if (pt_cmpR op_lt (pv 1) (pe_callB (callLenU (K := K) rfl) (by rfl) B.m_len (by decide +kernel) (pa_cons (pv 0) pa_nil)) (nomark _)) (pss_one (ps_ret (pe_callB call_abs (by rfl) B.m_abs (by decide +kernel) (pa_cons (pe_callTy call_int1 (by rfl) B.m_int (by decide +kernel) (pa_cons (pe_ix (ixA (K := K) rfl) (pv 0) (pv 1) (fun _ _ => rfl)) pa_nil)) pa_nil)))) pss_nil)
      (pss_one (ps_ret pe_int))), ?_⟩
  try dsimp only [cxOf, Cx.nox, Cx.wish]
  intro G os ds d vs Q hO hv hp q
  obtain ⟨ns, k, rfl, hpre, rfl⟩ := hp
  obtain ⟨v1, _, rfl, i1, hv⟩ := hv.cons_inv
  obtain ⟨v2, _, rfl, i2, hv⟩ := hv.cons_inv
  have := hv.nil_inv; subst this
  have := i2.int_inv; subst this
  rw [show start ["script", "k"] [v1, V.int k] = [some (v1), some (V.int k)] from rfl]

  walk_at "if"
  · intro hb _ _
    have hlt : k < ns.length := by
      have := of_decide_eq_true hb
      rw [List.length_map] at this
      omega
    have hx : atI (ns.map D.int) (k : Int) = some (.int (ns.getD k 0)) := atI_ints (by omega) (by rw [Int.toNat_natCast, List.getD_eq_getElem?_getD, List.getElem?_eq_getElem hlt]; rfl)
    walk_at "st"
    exact congrArg D.int (by split <;> omega)
  · intro hb _ _
    walk_at "st"
    walk_at "st"
    have hle : ns.length ≤ k := by
      have := of_decide_eq_false hb
      rw [List.length_map] at this
      omega
    rw [List.getD_eq_getElem?_getD, List.getElem?_eq_none hle]
    rfl
end
def mix1 (cell k : Nat) : Nat := (cell * 48271 + k * 69621 + 11) % 2147483647
def mix2 (x k : Nat) : Nat := (x * x + k * 7919 + 3) % 2147483629
def mix3 (x k : Nat) : Nat := (x * x + x / 7 + k) % 2147483587
def mix (cell k : Nat) : Nat := mix3 (mix2 (mix1 cell k) k) k / 3

abbrev P_law_mix : List D → D → Prop := fun dIn dOut => ∃ (cell k : Nat), dIn = [.int cell, .int k] ∧ (True) ∧ dOut = .int (mix cell k : Int)
section
variable {P : Program} {w : World} {K : PySem.W.Frag} {mg : Str → Option Value} {base : Heap}
theorem ok_law_mix (B : Bi K mg) (A : At K mg "_law_mix" s_law_mix) : Fn P w K mg base "_law_mix" 1 ["cell", "k"] (Pr K P_law_mix) := by
  refine Fn.mkP A sc_law_mix (fun _ _ _ _ _ _ us hl => match us, hl with | [_, _], _ => rfl) (fun ds d h => by obtain ⟨_, _, e, _⟩ := h; subst e; rfl) fun f cdv A outer s H E hr => ⟨_,
    (pss_cons (ps_set (i := 2) sc_law_mix.nd rfl (.inl rfl) (pe_op op_mod (pe_callTy call_int1 (by rfl) B.m_int (by decide +kernel) (pa_cons (pe_op (opAdd (K := K) rfl) (pe_op (opAdd (K := K) rfl) (pe_op opMul (pv 0) pe_int) (pe_op opMul (pv 1) pe_int)) pe_int) pa_nil)) pe_int))
      (pss_cons (ps_set (i := 2) sc_law_mix.nd rfl (.inl rfl) (pe_op op_mod (pe_callTy call_int1 (by rfl) B.m_int (by decide +kernel) (pa_cons (pe_op (opAdd (K := K) rfl) (pe_op (opAdd (K := K) rfl) (pe_op opMul (pv 2) (pv 2)) (pe_op opMul (pv 1) pe_int)) pe_int) pa_nil)) pe_int))
      (pss_cons (ps_set (i := 2) sc_law_mix.nd rfl (.inl rfl) (pe_op op_mod (pe_callTy call_int1 (by rfl) B.m_int (by decide +kernel) (pa_cons (pe_op (opAdd (K := K) rfl) (pe_op (opAdd (K := K) rfl) (pe_op opMul (pv 2) (pv 2)) (pe_op opDiv (pv 2) pe_int)) (pv 1)) pa_nil)) pe_int))
      (pss_one (ps_ret (pe_op opDiv (pv 2) pe_int)))))), ?_⟩
  try dsimp only [cxOf, Cx.nox, Cx.wish]
  intro G os ds d vs Q hO hv hp q
  obtain ⟨cell, k, rfl, hpre, rfl⟩ := hp
  obtain ⟨v1, _, rfl, i1, hv⟩ := hv.cons_inv
  obtain ⟨v2, _, rfl, i2, hv⟩ := hv.cons_inv
  have := hv.nil_inv; subst this
  have := i1.int_inv; subst this
  have := i2.int_inv; subst this
  rw [show start ["cell", "k", "x"] [V.int cell, V.int k] = [some (V.int cell), some (V.int k), none] from rfl]

  walk_at "seq"
  with_reducible refine' s_asgV (n := (mix1 cell k : Int)) ?hO1 ?he1 ?hd1 ?hn1 ?_
  case hO1 => assumption
  case he1 => walk_at "ev"
  case hn1 => walk_at "nrm"
  case hd1 => exact congrArg D.int (by unfold mix1; omega)
  intro _ _
  have h1 : mix1 cell k < 2147483647 := Nat.mod_lt _ (by decide)
  walk_at "seq"
  with_reducible refine' s_asgV (n := (mix2 (mix1 cell k) k : Int)) ?hO2 ?he2 ?hd2 ?hn2 ?_
  case hO2 => assumption
  case he2 => walk_at "ev"
  case hn2 => walk_at "nrm"
  case hd2 => exact congrArg D.int (by unfold mix2; omega)
  intro _ _
  have h2 : mix2 (mix1 cell k) k < 2147483629 := Nat.mod_lt _ (by decide)
  walk_at "seq"
  with_reducible refine' s_asgV (n := (mix3 (mix2 (mix1 cell k) k) k : Int)) ?hO3 ?he3 ?hd3 ?hn3 ?_
  case hO3 => assumption
  case he3 => walk_at "ev"
  case hn3 => walk_at "nrm"
  case hd3 => exact congrArg D.int (by unfold mix3; omega)
  intro _ _
  walk_at "st"
  rfl
end
theorem take_snoc {α : Type} {l : List α} {m : Nat} {x : α} (h : l[m]? = some x) : l.take (m + 1) = l.take m ++ [x] := by
  rw [List.take_add_one, h]; rfl
theorem bitOr_nat (a b : Nat) : Builtin.bitOr (a : Int) (b : Int) = ((a ||| b : Nat) : Int) := by
  rw [bitOr_nn (Int.natCast_nonneg _) (Int.natCast_nonneg _)]; rfl
theorem bitAnd_nat (a b : Nat) : Builtin.bitAnd (a : Int) (b : Int) = ((a &&& b : Nat) : Int) := by
  rw [PyProof.Rows.bitAnd_pp (Int.natCast_nonneg _) (Int.natCast_nonneg _)]; rfl
theorem shl_nat (a s : Nat) : (a : Int) * 2 ^ ((s : Int)).toNat = ((a * 2 ^ s : Nat) : Int) := by
  rw [Int.toNat_natCast]; push_cast; rfl
theorem shr_nat (a s : Nat) : (a : Int) / 2 ^ ((s : Int)).toNat = ((a / 2 ^ s : Nat) : Int) := by
  rw [Int.toNat_natCast]; push_cast; rfl
def drw (cell base : Nat) : Nat → Nat × List Nat
  | 0 => (cell, [])
  | m + 1 => if cell ≥ 10 ^ 18 ∧ (drw cell base m).1 > 0 then ((drw cell base m).1 / base, (drw cell base m).2 ++ [(drw cell base m).1 % base])
      else ((drw cell base m).1, (drw cell base m).2 ++ [mix (cell % 1000000007) m % base])
theorem drw_yes {cell base m : Nat} (h : cell ≥ 10 ^ 18 ∧ (drw cell base m).1 > 0) : drw cell base (m + 1) = ((drw cell base m).1 / base, (drw cell base m).2 ++ [(drw cell base m).1 % base]) := by
  rw [drw, if_pos h]
theorem drw_no {cell base m : Nat} (h : ¬ (cell ≥ 10 ^ 18 ∧ (drw cell base m).1 > 0)) : drw cell base (m + 1) = ((drw cell base m).1, (drw cell base m).2 ++ [mix (cell % 1000000007) m % base]) := by
  rw [drw, if_neg h]
def draws (cell count base : Nat) : List Nat := (drw cell base count).2
theorem drw_len (cell base : Nat) : ∀ m, (drw cell base m).2.length = m
  | 0 => rfl
  | m + 1 => by
    unfold drw
    split <;> simp [drw_len cell base m]
theorem draws_lt {base : Nat} (hb : 0 < base) (cell : Nat) : ∀ m, ∀ x ∈ (drw cell base m).2, x < base
  | 0, x, h => by simp [drw] at h
  | m + 1, x, h => by
    unfold drw at h
    split at h
    · rcases List.mem_append.mp h with h | h
      · exact draws_lt hb cell m x h
      · rw [List.mem_singleton.mp h]; exact Nat.mod_lt _ hb
    · rcases List.mem_append.mp h with h | h
      · exact draws_lt hb cell m x h
      · rw [List.mem_singleton.mp h]; exact Nat.mod_lt _ hb
def vI (n : Nat) : V := .int n
theorem isA_nI {K : PySem.W.Frag} {H : Hp} : ∀ ns : List Nat, IsA K H (ns.map vI) (ns.map nI)
  | [] => .nil
  | n :: r => .cons (.int n) (isA_nI r)
theorem isA_toNats {K : PySem.W.Frag} {H : Hp} : ∀ {v : List V} {ns : List Nat}, IsA K H v (ns.map nI) → v = ns.map vI
  | _, [], .nil => rfl
  | _, n :: r, .cons h k => by
    have e := Is.int_inv (i := (n : Int)) h
    rw [e, isA_toNats k]; rfl

abbrev P_law_draws : List D → D → Prop := fun dIn dOut => ∃ (cell count base : Nat), dIn = [.int cell, .int count, .int base] ∧ ((0 < base ∧ base < 100000) ∧ count ≤ 1000) ∧ dOut = .lst ((draws cell count base).map nI)
section
variable {P : Program} {w : World} {K : PySem.W.Frag} {mg : Str → Option Value} {base : Heap}
theorem ok_law_draws (B : Bi K mg) (A : At K mg "_law_draws" s_law_draws) (C_law_mix : Fn P w K mg base "_law_mix" 1 ["cell", "k"] (Pr K P_law_mix)) : Fn P w K mg base "_law_draws" 2 ["cell", "count", "base"] (Pr K P_law_draws) := by
  refine Fn.mkP A sc_law_draws (fun _ _ _ _ _ _ us hl => match us, hl with | [_, _, _], _ => rfl) (fun ds d h => by obtain ⟨_, _, _, e, _⟩ := h; subst e; rfl) fun f cdv A outer s H E hr => ⟨_,
    (pss_cons (ps_set (i := 3) sc_law_draws.nd rfl (.inl rfl) (pv 0))
      (pss_cons (ps_set (i := 4) sc_law_draws.nd rfl (.inl rfl) (pe_op op_mod (pe_callTy call_int1 (by rfl) B.m_int (by decide +kernel) (pa_cons (pv 0) pa_nil)) pe_int))
      (pss_cons (ps_set (i := 5) sc_law_draws.nd rfl (.inl rfl) (pe_lst pa_nil))
      (pss_cons (ps_for PassesOwn.never rfl (pi_range1 (by rfl) B.m_range (pa_cons (pv 1) pa_nil)) (pg_name (i := 6) sc_law_draws.nd rfl (.inl rfl)) (pss_one (ps_if (PW.pt (pw_and (pt_cmpR op_ge (pv 0) (pe_op op_pow pe_int pe_int) (nomark _)) (pw_and1 (pt_cmpR op_gt (pv 3) pe_int (nomark _))))) (pss_cons (ps_expr (bmK (K := K) (id := "list.append") rfl (pe_bm PySem.F.plainAttrs_list PySem.F.slot_list_append PySem.F.type_list_append mt_append (pv 5) (pa_cons (pe_op op_mod (pe_callTy call_int1 (by rfl) B.m_int (by decide +kernel) (pa_cons (pv 3) pa_nil)) (pv 2)) pa_nil)))) (pss_one (ps_set (i := 3) sc_law_draws.nd rfl (.inl rfl) (pe_op opDiv (pv 3) (pv 2))))) (pss_one (ps_expr (bmK (K := K) (id := "list.append") rfl (pe_bm PySem.F.plainAttrs_list PySem.F.slot_list_append PySem.F.type_list_append mt_append (pv 5) (pa_cons (pe_op op_mod (pe_callTy call_int1 (by rfl) B.m_int (by decide +kernel) (pa_cons (pe_fn C_law_mix (hr.mono (by decide)) (by rfl) (pa_cons (pv 4) (pa_cons (pv 6) pa_nil))) pa_nil)) (pv 2)) pa_nil))))))))
      (pss_one (ps_ret (pv 5))))))), ?_⟩
  try dsimp only [cxOf, Cx.nox, Cx.wish]
  intro G os ds d vs Q hO hv hp q
  obtain ⟨cell, count, base, rfl, hpre, rfl⟩ := hp
  obtain ⟨v1, _, rfl, i1, hv⟩ := hv.cons_inv
  obtain ⟨v2, _, rfl, i2, hv⟩ := hv.cons_inv
  obtain ⟨v3, _, rfl, i3, hv⟩ := hv.cons_inv
  have := hv.nil_inv; subst this
  have := i1.int_inv; subst this
  have := i2.int_inv; subst this
  have := i3.int_inv; subst this
  rw [show start ["cell", "count", "base", "rest", "small", "row", "k"] [V.int cell, V.int count, V.int base] = [some (V.int cell), some (V.int count), some (V.int base), none, none, none, none] from rfl]

  walk_at "st"
  walk_at "seq"
  with_reducible refine' s_asgV (n := ((cell % 1000000007 : Nat) : Int)) ?hO4 ?he4 ?hd4 ?hn4 ?_
  case hO4 => assumption
  case he4 => walk_at "ev"
  case hn4 => walk_at "nrm"
  case hd4 => exact congrArg D.int (by omega)
  intro _ _
  walk_at "seq"
  with_reducible refine' s_asgE ?hO6 ?_
  case hO6 => assumption
  intro l _ _
  dsimp only [List.set]
  walk_at "seq"
  with_reducible refine' s_forR1 (Pv := (fun m σ' H' => ∃ a, σ' = [some (V.int (cell : Int)), some (V.int (count : Int)), some (V.int (base : Int)), some (V.int ((drw cell base m).1 : Int)), some (V.int ((cell % 1000000007 : Nat) : Int)), some (.ref l), a] ∧ Own K G H' ((l, .lst ((drw cell base m).2.map vI)) :: os))) ?hO7 ?he7 ?hn7 ?h07 ?hs7 ?hd7
  case hO7 => assumption
  case he7 => first | walk_at "ea" | walk_at "ev"
  case hn7 => exact ⟨by omega, by omega⟩
  case h07 => intro H' hO'; exact ⟨_, rfl, hO'⟩
  case hs7 =>
    intro m σ' H' hm ⟨a, hσ, hO'⟩
    subst hσ
    dsimp only [List.set]
    have hlen := drw_len cell base m
    have hz : ((drw cell base m).2.map vI).length < 100000 := by rw [List.length_map]; omega
    have ep : (10 : Int) ^ (18 : Int).toNat = ((10 ^ 18 : Nat) : Int) := by decide
    have hb0 := hpre.1.1
    walk_at "if1"
    · intro hb _ _
      rw [Bool.and_eq_true, decide_eq_true_eq, decide_eq_true_eq, ep] at hb
      have hc : cell ≥ 10 ^ 18 ∧ (drw cell base m).1 > 0 := ⟨by omega, by omega⟩
      walk_at "app"
      with_reducible refine' s_asgV (n := ((drw cell base (m + 1)).1 : Int)) ?hO5 ?he5 ?hd5 ?hn5 ?_
      case hO5 => assumption
      case he5 => walk_at "ev"
      case hn5 => walk_at "nrm"
      case hd5 => exact congrArg D.int (by rw [drw_yes hc]; push_cast; rfl)
      intro _ _
      refine ⟨_, rfl, ?_⟩
      have e : (drw cell base (m + 1)).2.map vI = (drw cell base m).2.map vI ++ [V.int (((drw cell base m).1 : Int) % (base : Int))] := by
        rw [drw_yes hc, List.map_append]; rfl
      rw [e]
      assumption
    · intro hb _ _
      rw [Bool.and_eq_false_iff, decide_eq_false_iff_not, decide_eq_false_iff_not, ep] at hb
      have hc : ¬ (cell ≥ 10 ^ 18 ∧ (drw cell base m).1 > 0) := by omega
      walk_at "app1"
      refine ⟨some (V.int (m : Int)), ?_, ?_⟩
      · have e : (drw cell base (m + 1)).1 = (drw cell base m).1 := by
          rw [drw_no hc]
        rw [e]
      · have e : (drw cell base (m + 1)).2.map vI = (drw cell base m).2.map vI ++ [V.int ((mix (cell % 1000000007) m : Int) % (base : Int))] := by
          rw [drw_no hc, List.map_append]; rfl
        rw [e]
        assumption
  case hd7 =>
    intro σ' H' ⟨_, hσ, hO'⟩
    subst hσ
    exact s_outL (ms := []) q hO' (Evl.Ex.refl _) rfl rfl (isA_nI _)
end
theorem at_nI {d : List Nat} {j : Nat} (h : j < d.length) {i : Int} (e : i = (j : Int)) : atI (d.map nI) i = some (.int (d.getD j 0 : Int)) := by
  rw [e]
  refine atI_nat ?_
  rw [List.getElem?_map, List.getElem?_eq_getElem h, List.getD_eq_getElem?_getD, List.getElem?_eq_getElem h]
  rfl
theorem draw_lt {cell n base : Nat} (hb : 0 < base) (j : Nat) : (draws cell n base).getD j 0 < base := by
  rw [List.getD_eq_getElem?_getD]
  cases e : (draws cell n base)[j]? with
  | none => exact hb
  | some x => exact draws_lt hb _ n x (List.mem_of_getElem? e)

abbrev P_law_number : List D → D → Prop := fun dIn dOut => ∃ (i : Int), dIn = [.int i] ∧ (True) ∧ dOut = .bl true
section
variable {P : Program} {w : World} {K : PySem.W.Frag} {mg : Str → Option Value} {base : Heap}
theorem ok_law_number (B : Bi K mg) (A : At K mg "_law_number" s_law_number) : Fn P w K mg base "_law_number" 1 ["x"] (Pr K P_law_number) := by
  refine Fn.mkP A sc_law_number (fun _ _ _ _ _ _ us hl => match us, hl with | [_], _ => rfl) (fun ds d h => by obtain ⟨_, e, _⟩ := h; subst e; rfl) fun f cdv A outer s H E hr => ⟨_,
    (pss_one (ps_ret (pe_and (pe_callB (callIsi (K := K) rfl) (by rfl) B.m_isinstance (by decide +kernel) (pa_cons (pv 0) (pa_cons (pe_bltn (v := .ty "int") (by rfl) B.m_int (by decide +kernel) rfl) pa_nil))) (pe_one (pe_not (pe_callB (callIsi (K := K) rfl) (by rfl) B.m_isinstance (by decide +kernel) (pa_cons (pv 0) (pa_cons (pe_bltn (v := .ty "bool") (by rfl) B.m_bool (by decide +kernel) rfl) pa_nil)))))))), ?_⟩
  try dsimp only [cxOf, Cx.nox, Cx.wish]
  intro G os ds d vs Q hO hv hp q
  obtain ⟨i, rfl, hpre, rfl⟩ := hp
  obtain ⟨v1, _, rfl, i1, hv⟩ := hv.cons_inv
  have := hv.nil_inv; subst this
  have := i1.int_inv; subst this
  rw [show start ["x"] [V.int i] = [some (V.int i)] from rfl]

  walk_at "st"
  rfl
end
/-! ## sameness -/
def okD : Nat → D → Bool
  | 0, _ => false
  | n + 1, .non => true
  | n + 1, .bl _ => true
  | n + 1, .int _ => true
  | n + 1, .str _ => true
  | n + 1, .tup ds => decide (ds.length ≤ 100000) && ds.all (okD n)
  | n + 1, .lst ds => decide (ds.length ≤ 100000) && ds.all (okD n)
  | _ + 1, _ => false
theorem okD_seq {n : Nat} {ds : List D} (h : (decide (ds.length ≤ 100000) && ds.all (okD n)) = true) : ds.length ≤ 100000 ∧ ∀ x ∈ ds, okD n x = true := by
  rw [Bool.and_eq_true, decide_eq_true_eq, List.all_eq_true] at h
  exact h

def P_law_same : Nat → List D → D → Prop
  | 0 => fun _ _ => False
  | n + 1 => fun dIn dOut => ∃ (x : D), dIn = [x, x] ∧ (okD (n + 1) x = true) ∧ dOut = .bl true
section
variable {P : Program} {w : World} {K : PySem.W.Frag} {mg : Str → Option Value} {base : Heap}
theorem step_law_same (B : Bi K mg) (A : At K mg "_law_same" s_law_same) (C_law_number : Fn P w K mg base "_law_number" 1 ["x"] (Pr K P_law_number)) (n k : Nat) (hk : 1 ≤ k) (C_self : Fn P w K mg base "_law_same" k ["told", "due"] (Pr K (P_law_same n))) : Fn P w K mg base "_law_same" (k + 1) ["told", "due"] (Pr K (P_law_same (n + 1))) := by
  refine Fn.mkP A sc_law_same (fun _ _ _ _ _ _ us hl => match us, hl with | [_, _], _ => rfl) (fun ds d h => by obtain ⟨_, e, _⟩ := h; subst e; rfl) fun f cdv A outer s H E hr => ⟨_,
    (pss_cons (ps_if (pt_cmpR op_isN (pv 1) pe_non (nomark _)) (pss_one (ps_ret (pe_cmpR op_isN (pv 0) pe_non (nomark _)))) pss_nil)
      (pss_cons (ps_if (pt_val (pe_callB (callIsi (K := K) rfl) (by rfl) B.m_isinstance (by decide +kernel) (pa_cons (pv 1) (pa_cons (pe_bltn (v := .ty "bool") (by rfl) B.m_bool (by decide +kernel) rfl) pa_nil)))) (pss_one (ps_ret (pe_and (pe_callB (callIsi (K := K) rfl) (by rfl) B.m_isinstance (by decide +kernel) (pa_cons (pv 0) (pa_cons (pe_bltn (v := .ty "bool") (by rfl) B.m_bool (by decide +kernel) rfl) pa_nil))) (pe_one (pe_cmpR op_eq (pv 0) (pv 1) (nomark _)))))) pss_nil)
      (pss_cons (ps_if (pt_val (pe_callB (callIsi (K := K) rfl) (by rfl) B.m_isinstance (by decide +kernel) (pa_cons (pv 1) (pa_cons (pe_bltn (v := .ty "int") (by rfl) B.m_int (by decide +kernel) rfl) pa_nil)))) (pss_one (ps_ret (pe_and (pe_fn C_law_number (hr.mono (Nat.le_trans (by decide) hk)) (by rfl) (pa_cons (pv 0) pa_nil)) (pe_one (pe_cmpR op_eq (pv 0) (pv 1) (nomark _)))))) pss_nil)
      (pss_cons (ps_if (pt_val (pe_callB (callIsi (K := K) rfl) (by rfl) B.m_isinstance (by decide +kernel) (pa_cons (pv 1) (pa_cons (pe_bltn (v := .ty "str") (by rfl) B.m_str (by decide +kernel) rfl) pa_nil)))) (pss_one (ps_ret (pe_and (pe_callB (callIsi (K := K) rfl) (by rfl) B.m_isinstance (by decide +kernel) (pa_cons (pv 0) (pa_cons (pe_bltn (v := .ty "str") (by rfl) B.m_str (by decide +kernel) rfl) pa_nil))) (pe_one (pe_cmpR op_eq (pv 0) (pv 1) (nomark _)))))) pss_nil)
      (pss_cons (ps_if (PW.pt (pw_and (pt_val (pe_callB (callIsi (K := K) rfl) (by rfl) B.m_isinstance (by decide +kernel) (pa_cons (pv 1) (pa_cons (pe_bltn (v := .ty "tuple") (by rfl) B.m_tuple (by decide +kernel) rfl) pa_nil)))) (pw_and1 (pt_not (pt_val (pe_callB (callIsi (K := K) rfl) (by rfl) B.m_isinstance (by decide +kernel) (pa_cons (pv 0) (pa_cons (pe_bltn (v := .ty "tuple") (by rfl) B.m_tuple (by decide +kernel) rfl) pa_nil)))))))) (pss_one (ps_ret pe_bl)) pss_nil)
      (pss_cons (ps_if (PW.pt (pw_and (pt_val (pe_callB (callIsi (K := K) rfl) (by rfl) B.m_isinstance (by decide +kernel) (pa_cons (pv 1) (pa_cons (pe_bltn (v := .ty "list") (by rfl) B.m_list (by decide +kernel) rfl) pa_nil)))) (pw_and1 (pt_not (pt_val (pe_callB (callIsi (K := K) rfl) (by rfl) B.m_isinstance (by decide +kernel) (pa_cons (pv 0) (pa_cons (pe_bltn (v := .ty "list") (by rfl) B.m_list (by decide +kernel) rfl) pa_nil)))))))) (pss_one (ps_ret pe_bl)) pss_nil)
      (pss_cons (ps_if (pt_cmpR op_ne (pe_callB (callLenU (K := K) rfl) (by rfl) B.m_len (by decide +kernel) (pa_cons (pv 0) pa_nil)) (pe_callB (callLenU (K := K) rfl) (by rfl) B.m_len (by decide +kernel) (pa_cons (pv 1) pa_nil)) (nomark _)) (pss_one (ps_ret pe_bl)) pss_nil)
      (pss_cons (ps_for PassesOwn.never rfl (pi_range1 (by rfl) B.m_range (pa_cons (pe_callB (callLenU (K := K) rfl) (by rfl) B.m_len (by decide +kernel) (pa_cons (pv 1) pa_nil)) pa_nil)) (pg_name (i := 2) sc_law_same.nd rfl (.inl rfl)) (pss_one (ps_if (pt_not (pt_val (pe_fn C_self hr (by rfl) (pa_cons (pe_ix (ixA (K := K) rfl) (pv 0) (pv 2) (fun _ _ => rfl)) (pa_cons (pe_ix (ixA (K := K) rfl) (pv 1) (pv 2) (fun _ _ => rfl)) pa_nil))))) (pss_one (ps_ret pe_bl)) pss_nil)))
      (pss_one (ps_ret pe_bl)))))))))), ?_⟩
  try dsimp only [cxOf, Cx.nox, Cx.wish]
  intro G os ds d vs Q hO hv hp q
  obtain ⟨x, rfl, hpre, rfl⟩ := hp
  obtain ⟨v1, _, rfl, i1, hv⟩ := hv.cons_inv
  obtain ⟨v2, _, rfl, i2, hv⟩ := hv.cons_inv
  have := hv.nil_inv; subst this
  rw [show start ["told", "due", "k"] [v1, v2] = [some (v1), some (v2), none] from rfl]

  cases x with
  | non =>
    walk_at "ifT"
    walk_at "st"
    rfl
  | bl b =>
    walk_at "ifF"
    walk_at "ifT"
    walk_at "st"
    simp [isiB, kindD]
  | int i =>
    walk_at "ifF"
    walk_at "ifF"
    walk_at "ifT"
    walk_at "st"
    simp [isiB, kindD]
  | str i =>
    walk_at "ifF"
    walk_at "ifF"
    walk_at "ifF"
    walk_at "ifT"
    walk_at "st"
    simp [isiB, kindD]
  | tup ds =>
    obtain ⟨h1, h2⟩ := okD_seq hpre
    walk_at "ifF"
    walk_at "ifF"
    walk_at "ifF"
    walk_at "ifF"
    walk_at "ifF"
    walk_at "ifF"
    walk_at "ifF"
    walk_at "seq"
    with_reducible refine' s_forR1 (Pv := (fun m σ' H' => ∃ a, σ' = [some v1, some v2, a] ∧ Own K G H' os)) ?hO8 ?he8 ?hn8 ?h08 ?hs8 ?hd8
    case hO8 => assumption
    case he8 => first | walk_at "ea" | walk_at "ev"
    case hn8 => exact ⟨by omega, by omega⟩
    case h08 => intro H' hO'; exact ⟨_, rfl, hO'⟩
    case hs8 =>
      intro m σ' H' hm ⟨a, hσ, hO'⟩
      subst hσ
      dsimp only [List.set]
      have hlt : m < ds.length := by omega
      have e1 : atI ds (m : Int) = some ds[m] := atI_nat (List.getElem?_eq_getElem hlt)
      have e2 : P_law_same n [ds[m], ds[m]] (.bl true) := by
        cases n with
        | zero => exact absurd (h2 _ (List.getElem_mem hlt)) (by simp [okD])
        | succ n => exact Exists.intro _ ⟨rfl, h2 _ (List.getElem_mem hlt), rfl⟩
      walk_at "ifF1"
      exact ⟨_, rfl, ‹_›⟩
    case hd8 =>
      intro σ' H' ⟨a, hσ, hO'⟩
      subst hσ
      walk_at "st"
      rfl
  | lst ds =>
    obtain ⟨h1, h2⟩ := okD_seq hpre
    walk_at "ifF"
    walk_at "ifF"
    walk_at "ifF"
    walk_at "ifF"
    walk_at "ifF"
    walk_at "ifF"
    walk_at "ifF"
    walk_at "seq"
    with_reducible refine' s_forR1 (Pv := (fun m σ' H' => ∃ a, σ' = [some v1, some v2, a] ∧ Own K G H' os)) ?hO9 ?he9 ?hn9 ?h09 ?hs9 ?hd9
    case hO9 => assumption
    case he9 => first | walk_at "ea" | walk_at "ev"
    case hn9 => exact ⟨by omega, by omega⟩
    case h09 => intro H' hO'; exact ⟨_, rfl, hO'⟩
    case hs9 =>
      intro m σ' H' hm ⟨a, hσ, hO'⟩
      subst hσ
      dsimp only [List.set]
      have hlt : m < ds.length := by omega
      have e1 : atI ds (m : Int) = some ds[m] := atI_nat (List.getElem?_eq_getElem hlt)
      have e2 : P_law_same n [ds[m], ds[m]] (.bl true) := by
        cases n with
        | zero => exact absurd (h2 _ (List.getElem_mem hlt)) (by simp [okD])
        | succ n => exact Exists.intro _ ⟨rfl, h2 _ (List.getElem_mem hlt), rfl⟩
      walk_at "ifF1"
      exact ⟨_, rfl, ‹_›⟩
    case hd9 =>
      intro σ' H' ⟨a, hσ, hO'⟩
      subst hσ
      walk_at "st"
      rfl
  | _ => exact absurd hpre (by simp [okD])
theorem all_law_same (B : Bi K mg) (A : At K mg "_law_same" s_law_same) (C_law_number : Fn P w K mg base "_law_number" 1 ["x"] (Pr K P_law_number)) : ∀ n : Nat, Fn P w K mg base "_law_same" (1 + n) ["told", "due"] (Pr K (P_law_same n))
  | 0 => Fn.void A (fun _ _ _ _ _ _ us hl => match us, hl with | [_, _], _ => rfl) (fun _ _ h => h)
  | n + 1 => step_law_same B A C_law_number n (1 + n) (Nat.le_add_right _ _) (all_law_same B A C_law_number n)
theorem ok_law_same (B : Bi K mg) (A : At K mg "_law_same" s_law_same) (C_law_number : Fn P w K mg base "_law_number" 1 ["x"] (Pr K P_law_number)) : Fn P w K mg base "_law_same" 9 ["told", "due"] (Pr K (P_law_same 8)) := all_law_same B A C_law_number 8
end
theorem p_same {x : D} (h : okD 8 x = true) : P_law_same 8 [x, x] (.bl true) := Exists.intro x ⟨rfl, h, rfl⟩
local macro_rules | `(tactic| walk_at "call") => `(tactic| first | assumption | exact p_same (by first | assumption | rfl | (simp [okD]; done)) | exact ⟨rfl, (by walk_at "pre"), rfl⟩ | exact ⟨_, rfl, (by walk_at "pre"), rfl⟩ | exact ⟨_, _, rfl, (by walk_at "pre"), rfl⟩ | exact ⟨_, _, _, rfl, (by walk_at "pre"), rfl⟩ | exact ⟨_, _, _, _, rfl, (by walk_at "pre"), rfl⟩ | exact ⟨_, _, _, _, _, rfl, (by walk_at "pre"), rfl⟩ | exact ⟨_, _, _, _, _, _, rfl, (by walk_at "pre"), rfl⟩)

/-! ## k20: kept pairs -/
def strD (o : List Str) : D := .tup (o.map .str)
def ORD : List (List Str) := [[], ["RR"], ["WR"], ["WW"], ["RR", "WR"], ["RR", "WW"], ["WR", "WW"], ["RR", "WR", "WW"]]

abbrev P_all_orders : List D → List D → Prop := fun dIn dOut => dIn = [] ∧ (True) ∧ dOut = ORD.map strD
section
variable {P : Program} {w : World} {K : PySem.W.Frag} {mg : Str → Option Value} {base : Heap}
theorem ok_all_orders (B : Bi K mg) (A : At K mg "all_orders" s_all_orders) : Fn P w K mg base "all_orders" 1 [] (PrO K P_all_orders) := by
  obtain ⟨a_LOOSE, c_LOOSE, sq_LOOSE⟩ := B.c_LOOSE
  have g_LOOSE : ∀ G, Is K G (.ref a_LOOSE) D_LOOSE := fun G => .tup (sq_LOOSE G) (IsA.strs _)
  obtain ⟨a_PSO, c_PSO, sq_PSO⟩ := B.c_PSO
  have g_PSO : ∀ G, Is K G (.ref a_PSO) D_PSO := fun G => .tup (sq_PSO G) (IsA.strs _)
  obtain ⟨a_STRICT, c_STRICT, sq_STRICT⟩ := B.c_STRICT
  have g_STRICT : ∀ G, Is K G (.ref a_STRICT) D_STRICT := fun G => .tup (sq_STRICT G) (IsA.strs _)
  obtain ⟨a_TSO, c_TSO, sq_TSO⟩ := B.c_TSO
  have g_TSO : ∀ G, Is K G (.ref a_TSO) D_TSO := fun G => .tup (sq_TSO G) (IsA.strs _)
  refine Fn.own A sc_all_orders (fun _ _ _ _ _ _ us hl => match us, hl with | [], _ => rfl) (fun ds d h => by obtain ⟨e, _⟩ := h; subst e; rfl) fun f cdv A outer s H E hr => ⟨_,
    (pss_one (ps_ret (pe_lst (pa_cons (pe_glob (v := .ref a_LOOSE) (by rfl) c_LOOSE rfl) (pa_cons (pe_glob (v := .ref a_PSO) (by rfl) c_PSO rfl) (pa_cons (pe_tup (pa_cons pe_str pa_nil)) (pa_cons (pe_tup (pa_cons pe_str pa_nil)) (pa_cons (pe_tup (pa_cons pe_str (pa_cons pe_str pa_nil))) (pa_cons (pe_glob (v := .ref a_TSO) (by rfl) c_TSO rfl) (pa_cons (pe_tup (pa_cons pe_str (pa_cons pe_str pa_nil))) (pa_cons (pe_glob (v := .ref a_STRICT) (by rfl) c_STRICT rfl) pa_nil))))))))))), ?_⟩
  try dsimp only [cxOf, Cx.nox, Cx.wish]
  intro G os ds d vs Q hO hv hp q
  obtain ⟨rfl, hpre, rfl⟩ := hp
  have := hv.nil_inv; subst this
  rw [show start [] [] = [] from rfl]

  with_reducible refine' s_outN (ms := []) ?k ?hO ?he ?hQ ?h
  case hO => assumption
  case h => walk_at "en"
  case k => exact q
  case he => walk_at "ex"
  case hQ => rfl
end

abbrev P_law_orders : List D → List D → Prop := fun dIn dOut => dIn = [] ∧ (True) ∧ dOut = ORD.map strD
section
variable {P : Program} {w : World} {K : PySem.W.Frag} {mg : Str → Option Value} {base : Heap}
theorem ok_law_orders (B : Bi K mg) (A : At K mg "_law_orders" s_law_orders) : Fn P w K mg base "_law_orders" 1 [] (PrO K P_law_orders) := by
  refine Fn.own A sc_law_orders (fun _ _ _ _ _ _ us hl => match us, hl with | [], _ => rfl) (fun ds d h => by obtain ⟨e, _⟩ := h; subst e; rfl) fun f cdv A outer s H E hr => ⟨_,
    (pss_one (ps_ret (pe_lst (pa_cons (pe_tup pa_nil) (pa_cons (pe_tup (pa_cons pe_str pa_nil)) (pa_cons (pe_tup (pa_cons pe_str pa_nil)) (pa_cons (pe_tup (pa_cons pe_str pa_nil)) (pa_cons (pe_tup (pa_cons pe_str (pa_cons pe_str pa_nil))) (pa_cons (pe_tup (pa_cons pe_str (pa_cons pe_str pa_nil))) (pa_cons (pe_tup (pa_cons pe_str (pa_cons pe_str pa_nil))) (pa_cons (pe_tup (pa_cons pe_str (pa_cons pe_str (pa_cons pe_str pa_nil)))) pa_nil))))))))))), ?_⟩
  try dsimp only [cxOf, Cx.nox, Cx.wish]
  intro G os ds d vs Q hO hv hp q
  obtain ⟨rfl, hpre, rfl⟩ := hp
  have := hv.nil_inv; subst this
  rw [show start [] [] = [] from rfl]

  with_reducible refine' s_outN (ms := []) ?k ?hO ?he ?hQ ?h
  case hO => assumption
  case h => walk_at "en"
  case k => exact q
  case he => walk_at "ex"
  case hQ => rfl
end
theorem str_at {o : List Str} {m : Nat} {x : D} (h : (o.map D.str)[m]? = some x) : ∃ s, o[m]? = some s ∧ x = .str s := by
  rw [List.getElem?_map] at h
  cases e : o[m]? with
  | none => rw [e] at h; cases h
  | some p => rw [e] at h; cases h; exact ⟨p, rfl, rfl⟩
def inclB (o t : List Str) : Bool := t.all fun p => decide (p ∈ o)

abbrev P_includes : List D → D → Prop := fun dIn dOut => ∃ (o t : List Str), dIn = [strD o, strD t] ∧ (True) ∧ dOut = .bl (inclB o t)
section
variable {P : Program} {w : World} {K : PySem.W.Frag} {mg : Str → Option Value} {base : Heap}
theorem ok_includes (B : Bi K mg) (A : At K mg "includes" s_includes) : Fn P w K mg base "includes" 1 ["order", "other"] (Pr K P_includes) := by
  refine Fn.mkP A sc_includes (fun _ _ _ _ _ _ us hl => match us, hl with | [_, _], _ => rfl) (fun ds d h => by obtain ⟨_, _, e, _⟩ := h; subst e; rfl) fun f cdv A outer s H E hr => ⟨_,
    (pss_cons (ps_for PassesOwn.never rfl (piA (K := K) rfl (pv 1)) (pg_name (i := 2) sc_includes.nd rfl (.inl rfl)) (pss_one (ps_if (pt_cmpR (opNotInU (K := K) rfl) (pv 2) (pv 0) (by with_unfolding_all rfl)) (pss_one (ps_ret pe_bl)) pss_nil)))
      (pss_one (ps_ret pe_bl))), ?_⟩
  try dsimp only [cxOf, Cx.nox, Cx.wish]
  intro G os ds d vs Q hO hv hp q
  obtain ⟨o, t, rfl, hpre, rfl⟩ := hp
  obtain ⟨v1, _, rfl, i1, hv⟩ := hv.cons_inv
  obtain ⟨v2, _, rfl, i2, hv⟩ := hv.cons_inv
  have := hv.nil_inv; subst this
  rw [show start ["order", "other", "pair"] [v1, v2] = [some (v1), some (v2), none] from rfl]

  have i1' : Is K G v1 (.tup (o.map .str)) := i1
  have i2' : Is K G v2 (.tup (t.map .str)) := i2
  walk_at "seq"
  with_reducible refine' s_forT (Pv := (fun G' m σ' H' => ∃ a, σ' = [some v1, some v2, a] ∧ (∀ s ∈ t.take m, s ∈ o) ∧ Evl.Ex G G' ∧ Own K G' H' os)) ?hO10 ?he10 ?h010 ?hl10 ?hs10 ?hd10
  case hO10 => assumption
  case he10 => first | walk_at "ea" | walk_at "ev"
  case h010 => intro G' H' e hO'; exact ⟨_, rfl, by simp, e, hO'⟩
  case hl10 => intro G' m σ' H' ⟨_, _, _, _, hO'⟩; exact hO'.ex
  case hs10 =>
    intro G' m x v σ' H' e0 hx iv ⟨a, hσ, hall, e, hO'⟩
    obtain ⟨s, hs, rfl⟩ := str_at hx
    have := iv.str_inv; subst this
    subst hσ
    dsimp only [gName, List.set]
    walk_at "if1"
    · intro hb _ _
      walk_at "st"
      simp only [Bool.not_eq_true', decide_eq_false_iff_not] at hb
      refine congrArg D.bl (Eq.symm ?_)
      unfold inclB
      rw [List.all_eq_false]
      exact ⟨s, List.mem_of_getElem? hs, by simpa using hb⟩
    · intro hb _ _
      walk_at "st"
      refine ⟨_, rfl, ?_, e, ‹_›⟩
      intro z hz
      rw [take_snoc hs] at hz
      rcases List.mem_append.mp hz with hz | hz
      · exact hall z hz
      · have := List.mem_singleton.mp hz
        subst this
        simpa using hb
  case hd10 =>
    intro G' σ' H' _ ⟨a, hσ, hall, e, hO'⟩
    subst hσ
    walk_at "st"
    refine congrArg D.bl (Eq.symm ?_)
    unfold inclB
    rw [List.all_eq_true]
    intro z hz
    rw [List.length_map, List.take_length] at hall
    exact decide_eq_true (hall z hz)
end
abbrev sg (c : Nat) : Str := ⟨#[c]⟩
abbrev evD (c w m : Nat) : D := .tup [.str (sg c), .int w, .int m]
def rd (c : Nat) : Bool := inV (.str (sg c)) [.str "l", .str "x"]
def wr (c : Nat) : Bool := inV (.str (sg c)) [.str "s", .str "x"]

abbrev P_event_reads : List D → D → Prop := fun dIn dOut => ∃ (c w m : Nat), dIn = [evD c w m] ∧ (True) ∧ dOut = .bl (rd c)
section
variable {P : Program} {w : World} {K : PySem.W.Frag} {mg : Str → Option Value} {base : Heap}
theorem ok_event_reads (B : Bi K mg) (A : At K mg "event_reads" s_event_reads) : Fn P w K mg base "event_reads" 1 ["event"] (Pr K P_event_reads) := by
  refine Fn.mkP A sc_event_reads (fun _ _ _ _ _ _ us hl => match us, hl with | [_], _ => rfl) (fun ds d h => by obtain ⟨_, _, _, e, _⟩ := h; subst e; rfl) fun f cdv A outer s H E hr => ⟨_,
    (pss_one (ps_ret (pe_cmpR (opInU (K := K) rfl) (pe_ix (ixA (K := K) rfl) (pv 0) pe_int (fun _ _ => rfl)) (pe_tup (pa_cons pe_str (pa_cons pe_str pa_nil))) (by with_unfolding_all rfl)))), ?_⟩
  try dsimp only [cxOf, Cx.nox, Cx.wish]
  intro G os ds d vs Q hO hv hp q
  obtain ⟨c, w, m, rfl, hpre, rfl⟩ := hp
  obtain ⟨v1, _, rfl, i1, hv⟩ := hv.cons_inv
  have := hv.nil_inv; subst this
  rw [show start ["event"] [v1] = [some (v1)] from rfl]

  walk_at "st"
  rfl
end

abbrev P_event_writes : List D → D → Prop := fun dIn dOut => ∃ (c w m : Nat), dIn = [evD c w m] ∧ (True) ∧ dOut = .bl (wr c)
section
variable {P : Program} {w : World} {K : PySem.W.Frag} {mg : Str → Option Value} {base : Heap}
theorem ok_event_writes (B : Bi K mg) (A : At K mg "event_writes" s_event_writes) : Fn P w K mg base "event_writes" 1 ["event"] (Pr K P_event_writes) := by
  refine Fn.mkP A sc_event_writes (fun _ _ _ _ _ _ us hl => match us, hl with | [_], _ => rfl) (fun ds d h => by obtain ⟨_, _, _, e, _⟩ := h; subst e; rfl) fun f cdv A outer s H E hr => ⟨_,
    (pss_one (ps_ret (pe_cmpR (opInU (K := K) rfl) (pe_ix (ixA (K := K) rfl) (pv 0) pe_int (fun _ _ => rfl)) (pe_tup (pa_cons pe_str (pa_cons pe_str pa_nil))) (by with_unfolding_all rfl)))), ?_⟩
  try dsimp only [cxOf, Cx.nox, Cx.wish]
  intro G os ds d vs Q hO hv hp q
  obtain ⟨c, w, m, rfl, hpre, rfl⟩ := hp
  obtain ⟨v1, _, rfl, i1, hv⟩ := hv.cons_inv
  have := hv.nil_inv; subst this
  rw [show start ["event"] [v1] = [some (v1)] from rfl]

  walk_at "st"
  rfl
end
def kbk (o : List Str) (c d : Nat) : Bool := (rd c && wr d) || ((decide (("RR" : Str) ∈ o) && (rd c && rd d)) || ((decide (("WR" : Str) ∈ o) && (wr c && rd d)) || (decide (("WW" : Str) ∈ o) && (wr c && wr d))))

abbrev P_kept_by_kinds : List D → D → Prop := fun dIn dOut => ∃ (o : List Str) (c w m d x n : Nat), dIn = [strD o, evD c w m, evD d x n] ∧ (True) ∧ dOut = .bl (kbk o c d)
section
variable {P : Program} {w : World} {K : PySem.W.Frag} {mg : Str → Option Value} {base : Heap}
theorem ok_kept_by_kinds (B : Bi K mg) (A : At K mg "kept_by_kinds" s_kept_by_kinds) (C_event_reads : Fn P w K mg base "event_reads" 1 ["event"] (Pr K P_event_reads)) (C_event_writes : Fn P w K mg base "event_writes" 1 ["event"] (Pr K P_event_writes)) : Fn P w K mg base "kept_by_kinds" 2 ["order", "first", "second"] (Pr K P_kept_by_kinds) := by
  refine Fn.mkP A sc_kept_by_kinds (fun _ _ _ _ _ _ us hl => match us, hl with | [_, _, _], _ => rfl) (fun ds d h => by obtain ⟨_, _, _, _, _, _, _, e, _⟩ := h; subst e; rfl) fun f cdv A outer s H E hr => ⟨_,
    (pss_cons (ps_if (PW.pt (pw_and (pt_val (pe_fn C_event_reads (hr.mono (by decide)) (by rfl) (pa_cons (pv 1) pa_nil))) (pw_and1 (pt_val (pe_fn C_event_writes (hr.mono (by decide)) (by rfl) (pa_cons (pv 2) pa_nil)))))) (pss_one (ps_ret pe_bl)) pss_nil)
      (pss_cons (ps_if (PW.pt (pw_and (pt_cmpR (opInU (K := K) rfl) pe_str (pv 0) (by with_unfolding_all rfl)) (pw_and (pt_val (pe_fn C_event_reads (hr.mono (by decide)) (by rfl) (pa_cons (pv 1) pa_nil))) (pw_and1 (pt_val (pe_fn C_event_reads (hr.mono (by decide)) (by rfl) (pa_cons (pv 2) pa_nil))))))) (pss_one (ps_ret pe_bl)) pss_nil)
      (pss_cons (ps_if (PW.pt (pw_and (pt_cmpR (opInU (K := K) rfl) pe_str (pv 0) (by with_unfolding_all rfl)) (pw_and (pt_val (pe_fn C_event_writes (hr.mono (by decide)) (by rfl) (pa_cons (pv 1) pa_nil))) (pw_and1 (pt_val (pe_fn C_event_reads (hr.mono (by decide)) (by rfl) (pa_cons (pv 2) pa_nil))))))) (pss_one (ps_ret pe_bl)) pss_nil)
      (pss_one (ps_ret (pe_and (pe_cmpR (opInU (K := K) rfl) pe_str (pv 0) (by with_unfolding_all rfl)) (pe_and (pe_fn C_event_writes (hr.mono (by decide)) (by rfl) (pa_cons (pv 1) pa_nil)) (pe_one (pe_fn C_event_writes (hr.mono (by decide)) (by rfl) (pa_cons (pv 2) pa_nil)))))))))), ?_⟩
  try dsimp only [cxOf, Cx.nox, Cx.wish]
  intro G os ds d vs Q hO hv hp q
  obtain ⟨o, c, w, m, d, x, n, rfl, hpre, rfl⟩ := hp
  obtain ⟨v1, _, rfl, i1, hv⟩ := hv.cons_inv
  obtain ⟨v2, _, rfl, i2, hv⟩ := hv.cons_inv
  obtain ⟨v3, _, rfl, i3, hv⟩ := hv.cons_inv
  have := hv.nil_inv; subst this
  rw [show start ["order", "first", "second"] [v1, v2, v3] = [some (v1), some (v2), some (v3)] from rfl]

  have i1' : Is K G v1 (.tup (o.map .str)) := i1
  walk_at "if"
  · intro hb _ _
    walk_at "st"
    unfold kbk; rw [hb]; rfl
  intro hb1 _ _
  walk_at "st"
  walk_at "if"
  · intro hb _ _
    walk_at "st"
    unfold kbk; rw [hb1, hb]; rfl
  intro hb2 _ _
  walk_at "st"
  walk_at "if"
  · intro hb _ _
    walk_at "st"
    unfold kbk; rw [hb1, hb2, hb]; rfl
  intro hb3 _ _
  walk_at "st"
  walk_at "st"
  unfold kbk; rw [hb1, hb2, hb3]; rfl
end
def cov (m n : Nat) : Bool := decide (m &&& n = n)
def kbw (c w m d x n : Nat) : Bool := if w = x then !(decide (sg c = "s") && (decide (sg d = "l") && cov m n)) else false

abbrev P_kept_by_word : List D → D → Prop := fun dIn dOut => ∃ (c w m d x n : Nat), dIn = [evD c w m, evD d x n] ∧ (True) ∧ dOut = .bl (kbw c w m d x n)
section
variable {P : Program} {w : World} {K : PySem.W.Frag} {mg : Str → Option Value} {base : Heap}
theorem ok_kept_by_word (B : Bi K mg) (A : At K mg "kept_by_word" s_kept_by_word) : Fn P w K mg base "kept_by_word" 1 ["first", "second"] (Pr K P_kept_by_word) := by
  refine Fn.mkP A sc_kept_by_word (fun _ _ _ _ _ _ us hl => match us, hl with | [_, _], _ => rfl) (fun ds d h => by obtain ⟨_, _, _, _, _, _, e, _⟩ := h; subst e; rfl) fun f cdv A outer s H E hr => ⟨_,
    (pss_cons (ps_if (pt_cmpR op_ne (pe_ix (ixA (K := K) rfl) (pv 0) pe_int (fun _ _ => rfl)) (pe_ix (ixA (K := K) rfl) (pv 1) pe_int (fun _ _ => rfl)) (nomark _)) (pss_one (ps_ret pe_bl)) pss_nil)
      (pss_cons (ps_set (i := 2) sc_kept_by_word.nd rfl (.inl rfl) (pe_cmpR op_eq (pe_op op_and (pe_ix (ixA (K := K) rfl) (pv 0) pe_int (fun _ _ => rfl)) (pe_ix (ixA (K := K) rfl) (pv 1) pe_int (fun _ _ => rfl))) (pe_ix (ixA (K := K) rfl) (pv 1) pe_int (fun _ _ => rfl)) (nomark _)))
      (pss_one (ps_ret (pe_not (pe_and (pe_cmpR op_eq (pe_ix (ixA (K := K) rfl) (pv 0) pe_int (fun _ _ => rfl)) pe_str (nomark _)) (pe_and (pe_cmpR op_eq (pe_ix (ixA (K := K) rfl) (pv 1) pe_int (fun _ _ => rfl)) pe_str (nomark _)) (pe_one (pv 2))))))))), ?_⟩
  try dsimp only [cxOf, Cx.nox, Cx.wish]
  intro G os ds d vs Q hO hv hp q
  obtain ⟨c, w, m, d, x, n, rfl, hpre, rfl⟩ := hp
  obtain ⟨v1, _, rfl, i1, hv⟩ := hv.cons_inv
  obtain ⟨v2, _, rfl, i2, hv⟩ := hv.cons_inv
  have := hv.nil_inv; subst this
  rw [show start ["first", "second", "covered"] [v1, v2] = [some (v1), some (v2), none] from rfl]

  walk_at "if"
  · intro hb _ _
    walk_at "st"
    unfold kbw
    rw [if_neg (by intro h; subst h; simp at hb)]
  intro hb _ _
  walk_at "st"
  walk_at "st"
  walk_at "st"
  unfold kbw
  rw [if_pos (by simp at hb; omega)]
  refine congrArg D.bl ?_
  unfold cov
  rw [bitAnd_nat]
  congr 3
  exact decide_eq_decide.mpr ⟨fun h => by omega, fun h => by omega⟩
end
def kbm (k c d : Nat) : Bool := ((decide (k &&& 1 > 0) && rd c) || (decide (k &&& 2 > 0) && wr c)) && ((decide (k &&& 4 > 0) && rd d) || (decide (k &&& 8 > 0) && wr d))

abbrev P_kept_by_mask : List D → D → Prop := fun dIn dOut => ∃ (k c w m d x n : Nat), dIn = [.int k, evD c w m, evD d x n] ∧ (True) ∧ dOut = .bl (kbm k c d)
section
variable {P : Program} {w : World} {K : PySem.W.Frag} {mg : Str → Option Value} {base : Heap}
theorem ok_kept_by_mask (B : Bi K mg) (A : At K mg "kept_by_mask" s_kept_by_mask) (C_event_reads : Fn P w K mg base "event_reads" 1 ["event"] (Pr K P_event_reads)) (C_event_writes : Fn P w K mg base "event_writes" 1 ["event"] (Pr K P_event_writes)) : Fn P w K mg base "kept_by_mask" 2 ["mask", "first", "second"] (Pr K P_kept_by_mask) := by
  refine Fn.mkP A sc_kept_by_mask (fun _ _ _ _ _ _ us hl => match us, hl with | [_, _, _], _ => rfl) (fun ds d h => by obtain ⟨_, _, _, _, _, _, _, e, _⟩ := h; subst e; rfl) fun f cdv A outer s H E hr => ⟨_,
    (pss_cons (ps_set (i := 3) sc_kept_by_mask.nd rfl (.inl rfl) (pe_or (pe_and (pe_cmpR op_gt (pe_op op_and (pv 0) pe_int) pe_int (nomark _)) (pe_one (pe_fn C_event_reads (hr.mono (by decide)) (by rfl) (pa_cons (pv 1) pa_nil)))) (pe_one (pe_and (pe_cmpR op_gt (pe_op op_and (pv 0) pe_int) pe_int (nomark _)) (pe_one (pe_fn C_event_writes (hr.mono (by decide)) (by rfl) (pa_cons (pv 1) pa_nil)))))))
      (pss_cons (ps_set (i := 4) sc_kept_by_mask.nd rfl (.inl rfl) (pe_or (pe_and (pe_cmpR op_gt (pe_op op_and (pv 0) pe_int) pe_int (nomark _)) (pe_one (pe_fn C_event_reads (hr.mono (by decide)) (by rfl) (pa_cons (pv 2) pa_nil)))) (pe_one (pe_and (pe_cmpR op_gt (pe_op op_and (pv 0) pe_int) pe_int (nomark _)) (pe_one (pe_fn C_event_writes (hr.mono (by decide)) (by rfl) (pa_cons (pv 2) pa_nil)))))))
      (pss_one (ps_ret (pe_and (pv 3) (pe_one (pv 4))))))), ?_⟩
  try dsimp only [cxOf, Cx.nox, Cx.wish]
  intro G os ds d vs Q hO hv hp q
  obtain ⟨k, c, w, m, d, x, n, rfl, hpre, rfl⟩ := hp
  obtain ⟨v1, _, rfl, i1, hv⟩ := hv.cons_inv
  obtain ⟨v2, _, rfl, i2, hv⟩ := hv.cons_inv
  obtain ⟨v3, _, rfl, i3, hv⟩ := hv.cons_inv
  have := hv.nil_inv; subst this
  have := i1.int_inv; subst this
  rw [show start ["mask", "first", "second", "before", "after"] [V.int k, v2, v3] = [some (V.int k), some (v2), some (v3), none, none] from rfl]

  walk_at "st"
  walk_at "st"
  walk_at "st"
  have e : ∀ j : Nat, decide (Builtin.bitAnd (k : Int) (j : Int) > 0) = decide (k &&& j > 0) := fun j => by
    rw [bitAnd_nat]; simp
  have e1 : decide (Builtin.bitAnd (k : Int) 1 > 0) = decide (k &&& 1 > 0) := e 1
  have e2 : decide (Builtin.bitAnd (k : Int) 2 > 0) = decide (k &&& 2 > 0) := e 2
  have e4 : decide (Builtin.bitAnd (k : Int) 4 > 0) = decide (k &&& 4 > 0) := e 4
  have e8 : decide (Builtin.bitAnd (k : Int) 8 > 0) = decide (k &&& 8 > 0) := e 8
  unfold kbm
  rw [← e1, ← e2, ← e4, ← e8]
end
theorem nI_at {ns : List Nat} {m : Nat} {x : D} (h : (ns.map nI)[m]? = some x) : ∃ k : Nat, ns[m]? = some k ∧ x = .int k := by
  rw [List.getElem?_map] at h
  cases e : ns[m]? with
  | none => rw [e] at h; cases h
  | some p => rw [e] at h; cases h; exact ⟨p, rfl, rfl⟩
theorem take_none {α : Type} {l : List α} {F : α → Bool} {m : Nat} {x : α} (h : ∀ z ∈ l.take m, F z = false) (hx : l[m]? = some x) (hf : F x = false) : ∀ z ∈ l.take (m + 1), F z = false := fun z hz => by
  rw [take_snoc hx] at hz
  rcases List.mem_append.mp hz with hz | hz
  · exact h z hz
  · have := List.mem_singleton.mp hz
    subst this
    exact hf
theorem any_none {α : Type} {l : List α} {F : α → Bool} (h : ∀ z ∈ l.take l.length, F z = false) : l.any F = false := by
  rw [List.take_length] at h
  rw [List.any_eq_false]
  intro z hz
  rw [h z hz]
  exact Bool.false_ne_true
theorem any_some {α : Type} {l : List α} {F : α → Bool} {m : Nat} {x : α} (hx : l[m]? = some x) (hf : F x = true) : l.any F = true := List.any_eq_true.mpr ⟨x, List.mem_of_getElem? hx, hf⟩
def keptA (o : List Str) (c w m d x n : Nat) (rest : Bool) : Bool := rest || (kbk o c d || kbw c w m d x n)
def keptB (o : List Str) (c w m d x n : Nat) (ms : List Nat) (dep rest : Bool) : Bool := keptA o c w m d x n rest || ((dep && (rd c && decide (sg d = "l"))) || ms.any fun k => kbm k c d)

abbrev P_kept : List D → D → Prop := fun dIn dOut => ∃ (o : List Str) (c w m d x n : Nat) (tp : Bool) (ms : List Nat) (dep rest : Bool), dIn = [strD o, evD c w m, evD d x n, sqD tp (ms.map nI), .bl dep, .bl rest] ∧ (True) ∧ dOut = .bl (keptB o c w m d x n ms dep rest)
section
variable {P : Program} {w : World} {K : PySem.W.Frag} {mg : Str → Option Value} {base : Heap}
theorem ok_kept (B : Bi K mg) (A : At K mg "kept" s_kept) (C_kept_by_kinds : Fn P w K mg base "kept_by_kinds" 2 ["order", "first", "second"] (Pr K P_kept_by_kinds)) (C_kept_by_word : Fn P w K mg base "kept_by_word" 1 ["first", "second"] (Pr K P_kept_by_word)) (C_event_reads : Fn P w K mg base "event_reads" 1 ["event"] (Pr K P_event_reads)) (C_kept_by_mask : Fn P w K mg base "kept_by_mask" 2 ["mask", "first", "second"] (Pr K P_kept_by_mask)) : Fn P w K mg base "kept" 3 ["order", "first", "second", "masks", "depends", "rest"] (Pr K P_kept) := by
  refine Fn.mkP A sc_kept (fun _ _ _ _ _ _ us hl => match us, hl with | [_, _, _, _, _, _], _ => rfl) (fun ds d h => by obtain ⟨_, _, _, _, _, _, _, _, _, _, _, e, _⟩ := h; subst e; rfl) fun f cdv A outer s H E hr => ⟨_,
    (pss_cons (ps_if (PW.pt (pw_or (pt_val (pv 5)) (pw_or (pt_val (pe_fn C_kept_by_kinds (hr.mono (by decide)) (by rfl) (pa_cons (pv 0) (pa_cons (pv 1) (pa_cons (pv 2) pa_nil))))) (pw_or1 (pt_val (pe_fn C_kept_by_word (hr.mono (by decide)) (by rfl) (pa_cons (pv 1) (pa_cons (pv 2) pa_nil)))))))) (pss_one (ps_ret pe_bl)) pss_nil)
      (pss_cons (ps_if (PW.pt (pw_and (pt_val (pv 4)) (pw_and (pt_val (pe_fn C_event_reads (hr.mono (by decide)) (by rfl) (pa_cons (pv 1) pa_nil))) (pw_and1 (pt_cmpR op_eq (pe_ix (ixA (K := K) rfl) (pv 2) pe_int (fun _ _ => rfl)) pe_str (nomark _)))))) (pss_one (ps_ret pe_bl)) pss_nil)
      (pss_cons (ps_for PassesOwn.never rfl (piA (K := K) rfl (pv 3)) (pg_name (i := 6) sc_kept.nd rfl (.inl rfl)) (pss_one (ps_if (pt_val (pe_fn C_kept_by_mask (hr.mono (by decide)) (by rfl) (pa_cons (pv 6) (pa_cons (pv 1) (pa_cons (pv 2) pa_nil))))) (pss_one (ps_ret pe_bl)) pss_nil)))
      (pss_one (ps_ret pe_bl))))), ?_⟩
  try dsimp only [cxOf, Cx.nox, Cx.wish]
  intro G os ds d vs Q hO hv hp q
  obtain ⟨o, c, w, m, d, x, n, tp, ms, dep, rest, rfl, hpre, rfl⟩ := hp
  obtain ⟨v1, _, rfl, i1, hv⟩ := hv.cons_inv
  obtain ⟨v2, _, rfl, i2, hv⟩ := hv.cons_inv
  obtain ⟨v3, _, rfl, i3, hv⟩ := hv.cons_inv
  obtain ⟨v4, _, rfl, i4, hv⟩ := hv.cons_inv
  obtain ⟨v5, _, rfl, i5, hv⟩ := hv.cons_inv
  obtain ⟨v6, _, rfl, i6, hv⟩ := hv.cons_inv
  have := hv.nil_inv; subst this
  have := i5.bl_inv; subst this
  have := i6.bl_inv; subst this
  rw [show start ["order", "first", "second", "masks", "depends", "rest", "mask"] [v1, v2, v3, v4, V.bl dep, V.bl rest] = [some (v1), some (v2), some (v3), some (v4), some (V.bl dep), some (V.bl rest), none] from rfl]

  have p1 : P_kept_by_kinds [strD o, evD c w m, evD d x n] (.bl (kbk o c d)) := ⟨_, _, _, _, _, _, _, rfl, trivial, rfl⟩
  have p2 : P_kept_by_word [evD c w m, evD d x n] (.bl (kbw c w m d x n)) := ⟨_, _, _, _, _, _, rfl, trivial, rfl⟩
  have p3 : P_event_reads [evD c w m] (.bl (rd c)) := ⟨_, _, _, rfl, trivial, rfl⟩
  have p4 : ∀ k : Nat, P_kept_by_mask [.int k, evD c w m, evD d x n] (.bl (kbm k c d)) := fun k => ⟨_, _, _, _, _, _, _, rfl, trivial, rfl⟩
  walk_at "if"
  · intro hb _ _
    walk_at "st"
    exact congrArg D.bl (by unfold keptB keptA; rw [hb]; rfl)
  intro hb1 _ _
  walk_at "st"
  walk_at "if"
  · intro hb _ _
    walk_at "st"
    exact congrArg D.bl (by unfold keptB keptA; rw [hb1, hb]; rfl)
  intro hb2 _ _
  walk_at "st"
  walk_at "seq"
  with_reducible refine' s_forQ (Pv := (fun G' j σ' H' => ∃ a, σ' = [some v1, some v2, some v3, some v4, some (V.bl dep), some (V.bl rest), a] ∧ (∀ z ∈ ms.take j, kbm z c d = false) ∧ Evl.Ex G G' ∧ Own K G' H' os)) ?hO11 ?he11 ?h011 ?hl11 ?hs11 ?hd11
  case hO11 => assumption
  case he11 => first | walk_at "ea" | walk_at "ev"
  case h011 => intro G' H' e hO'; exact ⟨_, rfl, by simp, e, hO'⟩
  case hl11 => intro G' m σ' H' ⟨_, _, _, _, hO'⟩; exact hO'.ex
  case hs11 =>
    intro G' j x v σ' H' e0 hx iv ⟨a, hσ, hall, e, hO'⟩
    obtain ⟨k, hk, rfl⟩ := nI_at hx
    have := iv.int_inv; subst this
    subst hσ
    dsimp only [gName, List.set]
    have := p4 k
    walk_at "if1"
    · intro hb _ _
      walk_at "st"
      exact congrArg D.bl (by unfold keptB keptA; rw [hb1, hb2, any_some hk hb]; rfl)
    · intro hb _ _
      walk_at "st"
      exact ⟨_, rfl, take_none hall hk hb, e, ‹_›⟩
  case hd11 =>
    intro G' σ' H' _ ⟨a, hσ, hall, e, hO'⟩
    subst hσ
    rw [List.length_map] at hall
    walk_at "st"
    exact congrArg D.bl (by unfold keptB keptA; rw [hb1, hb2, any_none hall]; rfl)
end
def fullOf (s : Nat) : Nat := [0, 1, 3, 7, 15].getD s 0
def evM (c b s : Nat) : Nat := if sg c = "x" ∨ s ≤ b then fullOf s else [1, 2, 4, 8].getD b 0

abbrev P_law_event : List D → D → Prop := fun dIn dOut => ∃ (c w b s : Nat), dIn = [.str (sg c), .int w, .int b, .int s] ∧ (1 ≤ s ∧ s ≤ 4) ∧ dOut = evD c w (evM c b s)
section
variable {P : Program} {w : World} {K : PySem.W.Frag} {mg : Str → Option Value} {base : Heap}
theorem ok_law_event (B : Bi K mg) (A : At K mg "_law_event" s_law_event) : Fn P w K mg base "_law_event" 1 ["kind", "word", "byte", "size"] (Pr K P_law_event) := by
  refine Fn.mkP A sc_law_event (fun _ _ _ _ _ _ us hl => match us, hl with | [_, _, _, _], _ => rfl) (fun ds d h => by obtain ⟨_, _, _, _, e, _⟩ := h; subst e; rfl) fun f cdv A outer s H E hr => ⟨_,
    (pss_cons (ps_set (i := 4) sc_law_event.nd rfl (.inl rfl) (pe_ix (ixA (K := K) rfl) (pe_lst (pa_cons pe_int (pa_cons pe_int (pa_cons pe_int (pa_cons pe_int (pa_cons pe_int pa_nil)))))) (pv 3) (fun _ _ => rfl)))
      (pss_cons (ps_if (PW.pt (pw_or (pt_cmpR op_eq (pv 0) pe_str (nomark _)) (pw_or1 (pt_cmpR op_ge (pv 2) (pv 3) (nomark _))))) (pss_one (ps_ret (pe_tup (pa_cons (pv 0) (pa_cons (pv 1) (pa_cons (pv 4) pa_nil)))))) pss_nil)
      (pss_one (ps_ret (pe_tup (pa_cons (pv 0) (pa_cons (pv 1) (pa_cons (pe_ix (ixA (K := K) rfl) (pe_lst (pa_cons pe_int (pa_cons pe_int (pa_cons pe_int (pa_cons pe_int pa_nil))))) (pv 2) (fun _ _ => rfl)) pa_nil)))))))), ?_⟩
  try dsimp only [cxOf, Cx.nox, Cx.wish]
  intro G os ds d vs Q hO hv hp q
  obtain ⟨c, w, b, s, rfl, hpre, rfl⟩ := hp
  obtain ⟨v1, _, rfl, i1, hv⟩ := hv.cons_inv
  obtain ⟨v2, _, rfl, i2, hv⟩ := hv.cons_inv
  obtain ⟨v3, _, rfl, i3, hv⟩ := hv.cons_inv
  obtain ⟨v4, _, rfl, i4, hv⟩ := hv.cons_inv
  have := hv.nil_inv; subst this
  have := i1.str_inv; subst this
  have := i2.int_inv; subst this
  have := i3.int_inv; subst this
  have := i4.int_inv; subst this
  rw [show start ["kind", "word", "byte", "size", "full"] [V.str (sg c), V.int w, V.int b, V.int s] = [some (V.str (sg c)), some (V.int w), some (V.int b), some (V.int s), none] from rfl]

  have a1 : atI [D.int 0, D.int 1, D.int 3, D.int 7, D.int 15] (s : Int) = some (.int (fullOf s : Int)) := by
    obtain ⟨h1, h2⟩ := hpre
    match s, h1, h2 with
    | 1, _, _ => rfl
    | 2, _, _ => rfl
    | 3, _, _ => rfl
    | 4, _, _ => rfl
  walk_at "seq"
  with_reducible refine' s_asgV (n := (fullOf s : Int)) ?hO12 ?he12 ?hd12 ?hn12 ?_
  case hO12 => assumption
  case he12 => walk_at "ev"
  case hn12 => walk_at "nrm"
  case hd12 => exact congrArg D.int (rfl)
  intro _ _
  walk_at "if"
  · intro hb _ _
    walk_at "st"
    rw [Bool.or_eq_true, decide_eq_true_eq, decide_eq_true_eq] at hb
    unfold evM
    rw [if_pos (hb.imp id (by omega))]
  intro hb _ _
  walk_at "st"
  rw [Bool.or_eq_false_iff, decide_eq_false_iff_not, decide_eq_false_iff_not] at hb
  have hlt : b < s := by omega
  have a2 : atI [D.int 1, D.int 2, D.int 4, D.int 8] (b : Int) = some (.int (([1, 2, 4, 8].getD b 0 : Nat) : Int)) := by
    match b, (show b < 4 by omega) with
    | 0, _ => rfl
    | 1, _ => rfl
    | 2, _ => rfl
    | 3, _ => rfl
  walk_at "st"
  unfold evM
  rw [if_neg (by rintro (h | h); exact hb.1 h; omega)]
end
def isK (c : Nat) : Prop := c = 108 ∨ c = 115 ∨ c = 120
/-- the roles of a kind: false is R -/
def rolesL (c : Nat) : List Bool := if c = 108 then [false] else if c = 115 then [true] else [false, true]
def rc (a : Bool) : Nat := if a then 87 else 82
def rolesS (c : Nat) : Str := if c = 108 then "R" else if c = 115 then "W" else "RW"

abbrev P_law_roles : List D → D → Prop := fun dIn dOut => ∃ (c : Nat), dIn = [.str (sg c)] ∧ (isK c) ∧ dOut = .str (rolesS c)
section
variable {P : Program} {w : World} {K : PySem.W.Frag} {mg : Str → Option Value} {base : Heap}
theorem ok_law_roles (B : Bi K mg) (A : At K mg "_law_roles" s_law_roles) : Fn P w K mg base "_law_roles" 1 ["kind"] (Pr K P_law_roles) := by
  refine Fn.mkP A sc_law_roles (fun _ _ _ _ _ _ us hl => match us, hl with | [_], _ => rfl) (fun ds d h => by obtain ⟨_, e, _⟩ := h; subst e; rfl) fun f cdv A outer s H E hr => ⟨_,
    (pss_one (ps_ret (pe_dget (hu_of hr) (pe_disp (pps_cons pe_str pe_str (pps_cons pe_str pe_str (pps_cons pe_str pe_str pps_nil))) (by rfl) (by rfl) (fun z => by cases z) (by decide)) (pv 0) (fun _ _ => rfl)))), ?_⟩
  try dsimp only [cxOf, Cx.nox, Cx.wish]
  intro G os ds d vs Q hO hv hp q
  obtain ⟨c, rfl, hpre, rfl⟩ := hp
  obtain ⟨v1, _, rfl, i1, hv⟩ := hv.cons_inv
  have := hv.nil_inv; subst this
  have := i1.str_inv; subst this
  rw [show start ["kind"] [V.str (sg c)] = [some (V.str (sg c))] from rfl]

  have a1 : valD [(.inr "l", .str "R"), (.inr "s", .str "W"), (.inr "x", .str "RW")] (.inr (sg c)) = some (.str (rolesS c)) := by
    rcases hpre with h | h | h <;> subst h <;> rfl
  walk_at "st"
  rfl
end
def fen (k : Nat) (a b : Bool) : Bool := decide (k / (if a then 2 else 1) % 2 = 1) && decide (k / (if b then 8 else 4) % 2 = 1)

abbrev P_law_fenced : List D → D → Prop := fun dIn dOut => ∃ (k : Nat) (a b : Bool), dIn = [.int k, .str (sg (rc a)), .str (sg (rc b))] ∧ (True) ∧ dOut = .bl (fen k a b)
section
variable {P : Program} {w : World} {K : PySem.W.Frag} {mg : Str → Option Value} {base : Heap}
theorem ok_law_fenced (B : Bi K mg) (A : At K mg "_law_fenced" s_law_fenced) : Fn P w K mg base "_law_fenced" 1 ["mask", "one", "two"] (Pr K P_law_fenced) := by
  refine Fn.mkP A sc_law_fenced (fun _ _ _ _ _ _ us hl => match us, hl with | [_, _, _], _ => rfl) (fun ds d h => by obtain ⟨_, _, _, e, _⟩ := h; subst e; rfl) fun f cdv A outer s H E hr => ⟨_,
    (pss_cons (ps_set (i := 3) sc_law_fenced.nd rfl (.inl rfl) (pe_dget (hu_of hr) (pe_disp (pps_cons pe_str pe_int (pps_cons pe_str pe_int pps_nil)) (by rfl) (by rfl) (fun z => by cases z) (by decide)) (pv 1) (fun _ _ => rfl)))
      (pss_cons (ps_set (i := 4) sc_law_fenced.nd rfl (.inl rfl) (pe_dget (hu_of hr) (pe_disp (pps_cons pe_str pe_int (pps_cons pe_str pe_int pps_nil)) (by rfl) (by rfl) (fun z => by cases z) (by decide)) (pv 2) (fun _ _ => rfl)))
      (pss_one (ps_ret (pe_and (pe_cmpR op_eq (pe_op op_mod (pe_callTy call_int1 (by rfl) B.m_int (by decide +kernel) (pa_cons (pe_op opDiv (pv 0) (pv 3)) pa_nil)) pe_int) pe_int (nomark _)) (pe_one (pe_cmpR op_eq (pe_op op_mod (pe_callTy call_int1 (by rfl) B.m_int (by decide +kernel) (pa_cons (pe_op opDiv (pv 0) (pv 4)) pa_nil)) pe_int) pe_int (nomark _)))))))), ?_⟩
  try dsimp only [cxOf, Cx.nox, Cx.wish]
  intro G os ds d vs Q hO hv hp q
  obtain ⟨k, a, b, rfl, hpre, rfl⟩ := hp
  obtain ⟨v1, _, rfl, i1, hv⟩ := hv.cons_inv
  obtain ⟨v2, _, rfl, i2, hv⟩ := hv.cons_inv
  obtain ⟨v3, _, rfl, i3, hv⟩ := hv.cons_inv
  have := hv.nil_inv; subst this
  have := i1.int_inv; subst this
  have := i2.str_inv; subst this
  have := i3.str_inv; subst this
  rw [show start ["mask", "one", "two", "ahead", "behind"] [V.int k, V.str (sg (rc a)), V.str (sg (rc b))] = [some (V.int k), some (V.str (sg (rc a))), some (V.str (sg (rc b))), none, none] from rfl]

  have a1 : valD [(.inr "R", .int 1), (.inr "W", .int 2)] (.inr (sg (rc a))) = some (.int ((if a then 2 else 1 : Nat) : Int)) := by cases a <;> rfl
  have a2 : valD [(.inr "R", .int 4), (.inr "W", .int 8)] (.inr (sg (rc b))) = some (.int ((if b then 8 else 4 : Nat) : Int)) := by cases b <;> rfl
  walk_at "seq"
  with_reducible refine' s_asgV (n := ((if a then 2 else 1 : Nat) : Int)) ?hO13 ?he13 ?hd13 ?hn13 ?_
  case hO13 => assumption
  case he13 => walk_at "ev"
  case hn13 => walk_at "nrm"
  case hd13 => exact congrArg D.int (rfl)
  intro _ _
  walk_at "seq"
  with_reducible refine' s_asgV (n := ((if b then 8 else 4 : Nat) : Int)) ?hO14 ?he14 ?hd14 ?hn14 ?_
  case hO14 => assumption
  case he14 => walk_at "ev"
  case hn14 => walk_at "nrm"
  case hd14 => exact congrArg D.int (rfl)
  intro _ _
  have h1 : CDiv (k : Int) ((if a then 2 else 1 : Nat) : Int) := by cases a <;> exact ⟨by decide, by decide⟩
  have h2 : CDiv (k : Int) ((if b then 8 else 4 : Nat) : Int) := by cases b <;> exact ⟨by decide, by decide⟩
  generalize hA : (if a then 2 else 1 : Nat) = A1 at *
  generalize hB : (if b then 8 else 4 : Nat) = B1 at *
  walk_at "st"
  unfold fen
  rw [hA, hB]
  refine congrArg D.bl ?_
  congr 1
  · exact decide_eq_decide.mpr (by rw [← Int.natCast_ediv]; omega)
  · exact decide_eq_decide.mpr (by rw [← Int.natCast_ediv]; omega)
end
theorem roles_at {c m ch : Nat} (hc : isK c) (h : (rolesS c).cps[m]? = some ch) : ∃ a, (rolesL c)[m]? = some a ∧ ch = rc a := by
  have key : ∀ (w : Str) (l : List Bool), w.cps.toList = l.map rc → w.cps[m]? = some ch → ∃ a, l[m]? = some a ∧ ch = rc a := by
    intro w l e h
    rw [← Array.getElem?_toList, e, List.getElem?_map] at h
    cases e2 : l[m]? with
    | none => rw [e2] at h; cases h
    | some a => rw [e2] at h; cases h; exact ⟨a, rfl, rfl⟩
  refine key (rolesS c) (rolesL c) ?_ h
  rcases hc with h | h | h <;> subst h <;> rfl
theorem roles_len {c : Nat} (hc : isK c) : (rolesS c).cps.size = (rolesL c).length := by
  rcases hc with h | h | h <;> subst h <;> rfl
theorem sg_len (c : Nat) : (sg c).length = 1 := rfl
def dueIn (o : List Str) (ms : List Nat) (a b : Bool) : Bool := (decide (sg (rc a) ++ sg (rc b) = "RW") || decide (sg (rc a) ++ sg (rc b) ∈ o)) || ms.any fun k => fen k a b
def dueOut (o : List Str) (d : Nat) (ms : List Nat) (dep a : Bool) : Bool := (decide (sg (rc a) = "R") && (dep && decide (sg d = "l"))) || (rolesL d).any fun b => dueIn o ms a b
def dueW (c w m d x n : Nat) : Bool := decide (w = x) && !(decide (sg c ++ sg d = "sl") && decide (m ||| n = m))
def dueB (o : List Str) (c w m d x n : Nat) (ms : List Nat) (dep rest : Bool) : Bool := rest || (dueW c w m d x n || (rolesL c).any fun a => dueOut o d ms dep a)

abbrev P_law_due : List D → D → Prop := fun dIn dOut => ∃ (o : List Str) (c w m d x n : Nat) (ms : List Nat) (dep rest : Bool), dIn = [strD o, evD c w m, evD d x n, .lst (ms.map nI), .bl dep, .bl rest] ∧ (isK c ∧ isK d) ∧ dOut = .bl (dueB o c w m d x n ms dep rest)
section
variable {P : Program} {w : World} {K : PySem.W.Frag} {mg : Str → Option Value} {base : Heap}
theorem ok_law_due (B : Bi K mg) (A : At K mg "_law_due" s_law_due) (C_law_roles : Fn P w K mg base "_law_roles" 1 ["kind"] (Pr K P_law_roles)) (C_law_fenced : Fn P w K mg base "_law_fenced" 1 ["mask", "one", "two"] (Pr K P_law_fenced)) : Fn P w K mg base "_law_due" 2 ["order", "first", "second", "masks", "depends", "rest"] (Pr K P_law_due) := by
  refine Fn.mkP A sc_law_due (fun _ _ _ _ _ _ us hl => match us, hl with | [_, _, _, _, _, _], _ => rfl) (fun ds d h => by obtain ⟨_, _, _, _, _, _, _, _, _, _, e, _⟩ := h; subst e; rfl) fun f cdv A outer s H E hr => ⟨_,
    (pss_cons (ps_if (pt_val (pv 5)) (pss_one (ps_ret pe_bl)) pss_nil)
      (pss_cons (ps_set (i := 6) sc_law_due.nd rfl (.inl rfl) (pe_cmpR op_eq (pe_op op_or (pe_ix (ixA (K := K) rfl) (pv 1) pe_int (fun _ _ => rfl)) (pe_ix (ixA (K := K) rfl) (pv 2) pe_int (fun _ _ => rfl))) (pe_ix (ixA (K := K) rfl) (pv 1) pe_int (fun _ _ => rfl)) (nomark _)))
      (pss_cons (ps_if (PW.pt (pw_and (pt_cmpR op_eq (pe_ix (ixA (K := K) rfl) (pv 1) pe_int (fun _ _ => rfl)) (pe_ix (ixA (K := K) rfl) (pv 2) pe_int (fun _ _ => rfl)) (nomark _)) (pw_and1 (pt_not (PW.pt (pw_and (pt_cmpR op_eq (pe_op (opAdd (K := K) rfl) (pe_ix (ixA (K := K) rfl) (pv 1) pe_int (fun _ _ => rfl)) (pe_ix (ixA (K := K) rfl) (pv 2) pe_int (fun _ _ => rfl))) pe_str (nomark _)) (pw_and1 (pt_val (pv 6))))))))) (pss_one (ps_ret pe_bl)) pss_nil)
      (pss_cons (ps_for PassesOwn.never rfl (piA (K := K) rfl (pe_fn C_law_roles (hr.mono (by decide)) (by rfl) (pa_cons (pe_ix (ixA (K := K) rfl) (pv 1) pe_int (fun _ _ => rfl)) pa_nil))) (pg_name (i := 7) sc_law_due.nd rfl (.inl rfl)) (pss_cons (ps_if (PW.pt (pw_and (pt_cmpR op_eq (pv 7) pe_str (nomark _)) (pw_and (pt_val (pv 4)) (pw_and1 (pt_cmpR op_eq (pe_ix (ixA (K := K) rfl) (pv 2) pe_int (fun _ _ => rfl)) pe_str (nomark _)))))) (pss_one (ps_ret pe_bl)) pss_nil) (pss_one (ps_for PassesOwn.never rfl (piA (K := K) rfl (pe_fn C_law_roles (hr.mono (by decide)) (by rfl) (pa_cons (pe_ix (ixA (K := K) rfl) (pv 2) pe_int (fun _ _ => rfl)) pa_nil))) (pg_name (i := 8) sc_law_due.nd rfl (.inl rfl)) (pss_cons (ps_if (PW.pt (pw_or (pt_cmpR op_eq (pe_op (opAdd (K := K) rfl) (pv 7) (pv 8)) pe_str (nomark _)) (pw_or1 (pt_cmpR (opInU (K := K) rfl) (pe_op (opAdd (K := K) rfl) (pv 7) (pv 8)) (pv 0) (by with_unfolding_all rfl))))) (pss_one (ps_ret pe_bl)) pss_nil) (pss_one (ps_for PassesOwn.never rfl (piA (K := K) rfl (pv 3)) (pg_name (i := 9) sc_law_due.nd rfl (.inl rfl)) (pss_one (ps_if (pt_val (pe_fn C_law_fenced (hr.mono (by decide)) (by rfl) (pa_cons (pv 9) (pa_cons (pv 7) (pa_cons (pv 8) pa_nil))))) (pss_one (ps_ret pe_bl)) pss_nil)))))))))
      (pss_one (ps_ret pe_bl)))))), ?_⟩
  try dsimp only [cxOf, Cx.nox, Cx.wish]
  intro G os ds d vs Q hO hv hp q
  obtain ⟨o, c, w, m, d, x, n, ms, dep, rest, rfl, hpre, rfl⟩ := hp
  obtain ⟨v1, _, rfl, i1, hv⟩ := hv.cons_inv
  obtain ⟨v2, _, rfl, i2, hv⟩ := hv.cons_inv
  obtain ⟨v3, _, rfl, i3, hv⟩ := hv.cons_inv
  obtain ⟨v4, _, rfl, i4, hv⟩ := hv.cons_inv
  obtain ⟨v5, _, rfl, i5, hv⟩ := hv.cons_inv
  obtain ⟨v6, _, rfl, i6, hv⟩ := hv.cons_inv
  have := hv.nil_inv; subst this
  have := i5.bl_inv; subst this
  have := i6.bl_inv; subst this
  rw [show start ["order", "first", "second", "masks", "depends", "rest", "covered", "one", "two", "mask"] [v1, v2, v3, v4, V.bl dep, V.bl rest] = [some (v1), some (v2), some (v3), some (v4), some (V.bl dep), some (V.bl rest), none, none, none, none] from rfl]

  have i1' : Is K G v1 (.tup (o.map .str)) := i1
  have p1 : P_law_roles [.str (sg c)] (.str (rolesS c)) := ⟨c, rfl, hpre.1, rfl⟩
  have p2 : P_law_roles [.str (sg d)] (.str (rolesS d)) := ⟨d, rfl, hpre.2, rfl⟩
  have p3 : ∀ (k : Nat) (a b : Bool), P_law_fenced [.int k, .str (sg (rc a)), .str (sg (rc b))] (.bl (fen k a b)) := fun k a b => ⟨k, a, b, rfl, trivial, rfl⟩
  have z2 : ∀ a b : Nat, (sg a).length + (sg b).length ≤ 1000000 := fun a b => by rw [sg_len, sg_len]; decide
  walk_at "if"
  · intro hb _ _
    walk_at "st"
    exact congrArg D.bl (by unfold dueB; rw [hb]; rfl)
  intro hb1 _ _
  walk_at "st"
  walk_at "st"
  have zc := z2 c d
  walk_at "if"
  · intro hb _ _
    walk_at "st"
    refine congrArg D.bl ?_
    have hw : dueW c w m d x n = true := by
      rw [← hb]
      unfold dueW
      rw [bitOr_nat]
      congr 1
      · exact decide_eq_decide.mpr ⟨fun h => by omega, fun h => by omega⟩
      · congr 2
        exact decide_eq_decide.mpr ⟨fun h => by omega, fun h => by omega⟩
    unfold dueB
    rw [hb1, hw]; rfl
  intro hb2 _ _
  have hw : dueW c w m d x n = false := by
    rw [← hb2]
    unfold dueW
    rw [bitOr_nat]
    congr 1
    · exact decide_eq_decide.mpr ⟨fun h => by omega, fun h => by omega⟩
    · congr 2
      exact decide_eq_decide.mpr ⟨fun h => by omega, fun h => by omega⟩
  walk_at "st"
  walk_at "seq"
  with_reducible refine' s_forS (Pv := (fun j σ' H' => ∃ cv a b k, σ' = [some v1, some v2, some v3, some v4, some (V.bl dep), some (V.bl rest), some (V.bl cv), a, b, k] ∧ (∀ z ∈ (rolesL c).take j, dueOut o d ms dep z = false) ∧ Own K G H' os)) ?hO15 ?he15 ?h015 ?hs15 ?hd15
  case hO15 => assumption
  case he15 => first | walk_at "ea" | walk_at "ev"
  case h015 => intro H' hO'; exact ⟨_, _, _, _, rfl, by simp, hO'⟩
  case hs15 =>
    intro j ch σ' H' hch ⟨cv, _, b0, k0, hσ, hall, hO'⟩
    obtain ⟨a, ha, rfl⟩ := roles_at hpre.1 hch
    subst hσ
    dsimp only [List.set]
    walk_at "if"
    · intro hb _ _
      walk_at "st"
      refine congrArg D.bl ?_
      unfold dueB
      rw [hb1, hw, any_some ha (by unfold dueOut; rw [hb]; rfl)]; rfl
    intro hb3 _ _
    walk_at "st"
    with_reducible refine' s_forS (Pv := (fun i σ' H' => ∃ b k, σ' = [some v1, some v2, some v3, some v4, some (V.bl dep), some (V.bl rest), some (V.bl cv), some (V.str (sg (rc a))), b, k] ∧ (∀ z ∈ (rolesL d).take i, dueIn o ms a z = false) ∧ Own K G H' os)) ?hO16 ?he16 ?h016 ?hs16 ?hd16
    case hO16 => assumption
    case he16 => first | walk_at "ea" | walk_at "ev"
    case h016 => intro H' hO'; exact ⟨_, _, rfl, by simp, hO'⟩
    case hs16 =>
      intro i ch σ' H' hch ⟨_, k0, hσ, hall2, hO'⟩
      obtain ⟨b, hb, rfl⟩ := roles_at hpre.2 hch
      subst hσ
      dsimp only [List.set]
      have zr := z2 (rc a) (rc b)
      walk_at "if"
      · intro hq _ _
        walk_at "st"
        refine congrArg D.bl ?_
        unfold dueB
        rw [hb1, hw, any_some ha (by unfold dueOut; rw [any_some hb (by unfold dueIn; rw [hq]; rfl)]; exact Bool.or_true _)]; rfl
      intro hb4 _ _
      walk_at "st"
      with_reducible refine' s_forL (Pv := (fun G' u σ' H' => ∃ k, σ' = [some v1, some v2, some v3, some v4, some (V.bl dep), some (V.bl rest), some (V.bl cv), some (V.str (sg (rc a))), some (V.str (sg (rc b))), k] ∧ (∀ z ∈ ms.take u, fen z a b = false) ∧ Evl.Ex G G' ∧ Own K G' H' os)) ?hO17 ?he17 ?h017 ?hl17 ?hs17 ?hd17
      case hO17 => assumption
      case he17 => first | walk_at "ea" | walk_at "ev"
      case h017 => intro G' H' e hO'; exact ⟨_, rfl, by simp, e, hO'⟩
      case hl17 => intro G' m σ' H' ⟨_, _, _, _, hO'⟩; exact hO'.ex
      case hs17 =>
        intro G' u x v σ' H' e0 hx iv ⟨_, hσ, hall3, e, hO'⟩
        obtain ⟨k, hk, rfl⟩ := nI_at hx
        have := iv.int_inv; subst this
        subst hσ
        dsimp only [gName, List.set]
        have := p3 k a b
        walk_at "if1"
        · intro hq _ _
          walk_at "st"
          refine congrArg D.bl ?_
          unfold dueB
          rw [hb1, hw, any_some ha (by unfold dueOut; rw [any_some hb (by unfold dueIn; rw [any_some hk hq]; exact Bool.or_true _)]; exact Bool.or_true _)]; rfl
        · intro hq _ _
          walk_at "st"
          exact ⟨_, rfl, take_none hall3 hk hq, e, ‹_›⟩
      case hd17 =>
        intro G' σ' H' _ ⟨_, hσ, hall3, e, hO'⟩
        subst hσ
        rw [List.length_map] at hall3
        exact ⟨_, _, rfl, take_none hall2 hb (by unfold dueIn; rw [hb4, any_none hall3]; rfl), hO'.weak e⟩
    case hd16 =>
      intro σ' H' ⟨_, _, hσ, hall2, hO'⟩
      subst hσ
      rw [roles_len hpre.2] at hall2
      exact ⟨_, _, _, _, rfl, take_none hall ha (by unfold dueOut; rw [hb3, any_none hall2]; rfl), hO'⟩
  case hd15 =>
    intro σ' H' ⟨_, _, _, _, hσ, hall, hO'⟩
    subst hσ
    rw [roles_len hpre.1] at hall
    walk_at "st"
    exact congrArg D.bl (by unfold dueB; rw [hb1, hw, any_none hall]; rfl)
end
/-! the plain law -/
theorem any_or {α : Type} (l : List α) (f g : α → Bool) : (l.any fun k => f k || g k) = (l.any f || l.any g) := by
  induction l with
  | nil => rfl
  | cons a r ih =>
    rw [List.any_cons, List.any_cons, List.any_cons, ih]
    cases f a <;> cases g a <;> cases r.any f <;> rfl
theorem bitj (k j : Nat) : decide (k &&& 2 ^ j > 0) = decide (k / 2 ^ j % 2 = 1) := decide_eq_decide.mpr (by
  have h : k &&& 2 ^ j = 2 ^ j * (k / 2 ^ j % 2) := by
    apply Nat.eq_of_testBit_eq
    intro i
    rw [Nat.testBit_and, Nat.testBit_two_pow]
    rcases Nat.mod_two_eq_zero_or_one (k / 2 ^ j) with e | e
    · rw [e, Nat.mul_zero, Nat.zero_testBit]
      by_cases q : j = i
      · subst q
        rw [Nat.testBit_eq_decide_div_mod_eq, e]; rfl
      · rw [decide_eq_false q, Bool.and_false]
    · rw [e, Nat.mul_one, Nat.testBit_two_pow]
      by_cases q : j = i
      · subst q
        rw [Nat.testBit_eq_decide_div_mod_eq, e]; rfl
      · rw [decide_eq_false q, Bool.and_false]
  have hp := Nat.two_pow_pos j
  rw [h]
  rcases Nat.mod_two_eq_zero_or_one (k / 2 ^ j) with e | e <;> rw [e] <;> simp <;> omega)
def bt (k j : Nat) : Bool := decide (k &&& 2 ^ j > 0)
theorem fen_eq (k : Nat) (a b : Bool) : fen k a b = ((if a then bt k 1 else bt k 0) && (if b then bt k 3 else bt k 2)) := by
  unfold bt
  rw [bitj k 0, bitj k 1, bitj k 2, bitj k 3]
  cases a <;> cases b <;> rfl
theorem kbm_eq (k c d : Nat) : kbm k c d = (((bt k 0 && rd c) || (bt k 1 && wr c)) && ((bt k 2 && rd d) || (bt k 3 && wr d))) := rfl
theorem cov_eq (m n : Nat) : decide (m ||| n = m) = cov m n := decide_eq_decide.mpr (by
  constructor
  · intro h
    apply Nat.eq_of_testBit_eq
    intro i
    have := congrArg (fun z => z.testBit i) h
    simp only [Nat.testBit_or] at this
    rw [Nat.testBit_and]
    revert this
    cases m.testBit i <;> cases n.testBit i <;> simp
  · intro h
    apply Nat.eq_of_testBit_eq
    intro i
    have := congrArg (fun z => z.testBit i) h
    simp only [Nat.testBit_and] at this
    rw [Nat.testBit_or]
    revert this
    cases m.testBit i <;> cases n.testBit i <;> simp)
theorem eRR : sg (rc false) ++ sg (rc false) = "RR" := by rfl
theorem eRW : sg (rc false) ++ sg (rc true) = "RW" := by rfl
theorem eWR : sg (rc true) ++ sg (rc false) = "WR" := by rfl
theorem eWW : sg (rc true) ++ sg (rc true) = "WW" := by rfl
theorem dRR : decide (("RR" : Str) = "RW") = false := by decide +kernel
theorem dWR : decide (("WR" : Str) = "RW") = false := by decide +kernel
theorem dWW : decide (("WW" : Str) = "RW") = false := by decide +kernel
theorem dRW : decide (("RW" : Str) = "RW") = true := by decide +kernel
theorem dR : decide (sg (rc false) = "R") = true := by decide +kernel
theorem dW : decide (sg (rc true) = "R") = false := by decide +kernel
theorem any_fun {α : Type} {l : List α} {f g : α → Bool} (h : ∀ k, f k = g k) : l.any f = l.any g := by
  rw [show f = g from funext h]
theorem rd_108 : rd 108 = true := by decide +kernel
theorem wr_108 : wr 108 = false := by decide +kernel
theorem is_108 : decide (sg 108 = "s") = false := by decide +kernel
theorem il_108 : decide (sg 108 = "l") = true := by decide +kernel
theorem sl_108_108 : decide (sg 108 ++ sg 108 = "sl") = false := by decide +kernel
theorem sl_108_115 : decide (sg 108 ++ sg 115 = "sl") = false := by decide +kernel
theorem sl_108_120 : decide (sg 108 ++ sg 120 = "sl") = false := by decide +kernel
theorem rd_115 : rd 115 = false := by decide +kernel
theorem wr_115 : wr 115 = true := by decide +kernel
theorem is_115 : decide (sg 115 = "s") = true := by decide +kernel
theorem il_115 : decide (sg 115 = "l") = false := by decide +kernel
theorem sl_115_108 : decide (sg 115 ++ sg 108 = "sl") = true := by decide +kernel
theorem sl_115_115 : decide (sg 115 ++ sg 115 = "sl") = false := by decide +kernel
theorem sl_115_120 : decide (sg 115 ++ sg 120 = "sl") = false := by decide +kernel
theorem rd_120 : rd 120 = true := by decide +kernel
theorem wr_120 : wr 120 = true := by decide +kernel
theorem is_120 : decide (sg 120 = "s") = false := by decide +kernel
theorem il_120 : decide (sg 120 = "l") = false := by decide +kernel
theorem sl_120_108 : decide (sg 120 ++ sg 108 = "sl") = false := by decide +kernel
theorem sl_120_115 : decide (sg 120 ++ sg 115 = "sl") = false := by decide +kernel
theorem sl_120_120 : decide (sg 120 ++ sg 120 = "sl") = false := by decide +kernel
theorem kept_due (o : List Str) {c d : Nat} (w m x n : Nat) (ms : List Nat) (dep rest : Bool) (hc : isK c) (hd : isK d) : keptB o c w m d x n ms dep rest = dueB o c w m d x n ms dep rest := by
  have e1 : dueW c w m d x n = (decide (w = x) && !(decide (sg c ++ sg d = "sl") && cov m n)) := by unfold dueW; rw [cov_eq]
  have e2 : kbw c w m d x n = (decide (w = x) && !(decide (sg c = "s") && (decide (sg d = "l") && cov m n))) := by
    unfold kbw
    by_cases h : w = x
    · rw [if_pos h, decide_eq_true h, Bool.true_and]
    · rw [if_neg h, decide_eq_false h, Bool.false_and]
  have e3 : (fun k => kbm k c d) = fun k => (((bt k 0 && rd c) || (bt k 1 && wr c)) && ((bt k 2 && rd d) || (bt k 3 && wr d))) := rfl
  have e4 : ∀ a b, (ms.any fun k => fen k a b) = ms.any fun k => ((if a then bt k 1 else bt k 0) && (if b then bt k 3 else bt k 2)) := fun a b => any_fun fun k => fen_eq k a b
  have e5 : ∀ f1 f2 f3 f4 : Nat → Bool, (ms.any fun k => ((f1 k || f2 k) && (f3 k || f4 k))) = ((ms.any fun k => (f1 k && f3 k)) || ((ms.any fun k => (f1 k && f4 k)) || ((ms.any fun k => (f2 k && f3 k)) || ms.any fun k => (f2 k && f4 k)))) := fun f1 f2 f3 f4 => by
    rw [← any_or, ← any_or, ← any_or]
    exact any_fun fun k => by cases f1 k <;> cases f2 k <;> cases f3 k <;> cases f4 k <;> rfl
  have g00 := e4 false false
  have g01 := e4 false true
  have g10 := e4 true false
  have g11 := e4 true true
  simp only [if_true, if_false, Bool.false_eq_true, reduceIte] at g00 g01 g10 g11
  unfold keptB keptA dueB kbk dueOut dueIn
  rw [e1, e2, e3, e5]
  have q1 : ∀ (f : Nat → Bool) (g : Nat → Bool) (a b : Bool), (ms.any fun k => ((f k && a) && (g k && b))) = ((a && b) && ms.any fun k => (f k && g k)) := fun f g a b => by
    cases a <;> cases b <;> simp
  rw [q1, q1, q1, q1, ← g00, ← g01, ← g10, ← g11]
  generalize hF00 : (ms.any fun k => fen k false false) = F00
  generalize hF01 : (ms.any fun k => fen k false true) = F01
  generalize hF10 : (ms.any fun k => fen k true false) = F10
  generalize hF11 : (ms.any fun k => fen k true true) = F11
  generalize decide (w = x) = W
  generalize cov m n = C
  rcases hc with rfl | rfl | rfl <;> rcases hd with rfl | rfl | rfl <;>
    (simp only [rolesL, List.any_cons, List.any_nil, hF00, hF01, hF10, hF11, eRR, eRW, eWR, eWW, dRR, dWR, dWW, dRW, dR, dW, reduceIte, Nat.reduceEqDiff, rd_108, wr_108, is_108, il_108, sl_108_108, sl_108_115, sl_108_120, rd_115, wr_115, is_115, il_115, sl_115_108, sl_115_115, sl_115_120, rd_120, wr_120, is_120, il_120, sl_120_108, sl_120_115, sl_120_120]
     generalize decide (("RR" : Str) ∈ o) = A
     generalize decide (("RW" : Str) ∈ o) = A2
     generalize decide (("WR" : Str) ∈ o) = A3
     generalize decide (("WW" : Str) ∈ o) = A4
     clear hF00 hF01 hF10 hF11 g00 g01 g10 g11 e1 e2 e3 e4 e5 q1
     revert rest W C dep A A2 A3 A4 F00 F01 F10 F11
     decide +kernel)

theorem strD_at {o : List (List Str)} {m : Nat} {x : D} (h : (o.map strD)[m]? = some x) : ∃ s, s ∈ o ∧ x = strD s := by
  rw [List.getElem?_map] at h
  cases e : o[m]? with
  | none => rw [e] at h; cases h
  | some p => rw [e] at h; cases h; exact ⟨p, List.mem_of_getElem? e, rfl⟩
theorem filt_len (p : Nat → Bool) : ∀ n : Nat, (((List.range n).filter p).length = n) ↔ ∀ m, m < n → p m = true
  | 0 => by simp
  | n + 1 => by
    rw [List.range_succ, List.filter_append, List.length_append]
    have hl : ((List.range n).filter p).length ≤ n := Nat.le_trans (List.length_filter_le _ _) (by rw [List.length_range]; exact Nat.le_refl _)
    have ih := filt_len p n
    cases hp : p n with
    | true =>
      rw [show [n].filter p = [n] by simp [hp]]
      constructor
      · intro h m hm
        by_cases q : m = n
        · subst q; exact hp
        · exact ih.mp (by simp at h; omega) m (by omega)
      · intro h
        rw [ih.mpr fun m hm => h m (by omega)]; rfl
    | false =>
      rw [show [n].filter p = [] by simp [hp]]
      constructor
      · intro h; simp at h; omega
      · intro h; rw [h n (by omega)] at hp; cases hp
theorem incl_len (o t : List Str) : decide (((((List.range t.length).filter fun m => decide (t.getD m "" ∈ o)).length : Nat) : Int) = (t.length : Int)) = inclB o t := by
  unfold inclB
  rw [Bool.eq_iff_iff, decide_eq_true_eq, List.all_eq_true]
  have h := filt_len (fun m => decide (t.getD m "" ∈ o)) t.length
  constructor
  · intro e x hx
    obtain ⟨i, hi, rfl⟩ := List.getElem_of_mem hx
    have := h.mp (by omega) i hi
    rw [List.getD_eq_getElem?_getD, List.getElem?_eq_getElem hi] at this
    exact this
  · intro e
    have := h.mpr fun m hm => by
      have := e _ (List.getElem_mem hm)
      show decide (t.getD m "" ∈ o) = true
      rw [List.getD_eq_getElem?_getD, List.getElem?_eq_getElem hm]
      exact this
    omega

abbrev P_law_orders_told : List D → D → Prop := fun dIn dOut => dIn = [] ∧ (True) ∧ dOut = .bl true
section
variable {P : Program} {w : World} {K : PySem.W.Frag} {mg : Str → Option Value} {base : Heap}
theorem ok_law_orders_told (B : Bi K mg) (A : At K mg "_law_orders_told" s_law_orders_told) (C_law_orders : Fn P w K mg base "_law_orders" 1 [] (PrO K P_law_orders)) (C_all_orders : Fn P w K mg base "all_orders" 1 [] (PrO K P_all_orders)) (C_law_same : Fn P w K mg base "_law_same" 9 ["told", "due"] (Pr K (P_law_same 8))) (C_includes : Fn P w K mg base "includes" 1 ["order", "other"] (Pr K P_includes)) : Fn P w K mg base "_law_orders_told" 10 [] (Pr K P_law_orders_told) := by
  obtain ⟨a_LOOSE, c_LOOSE, sq_LOOSE⟩ := B.c_LOOSE
  have g_LOOSE : ∀ G, Is K G (.ref a_LOOSE) D_LOOSE := fun G => .tup (sq_LOOSE G) (IsA.strs _)
  obtain ⟨a_PSO, c_PSO, sq_PSO⟩ := B.c_PSO
  have g_PSO : ∀ G, Is K G (.ref a_PSO) D_PSO := fun G => .tup (sq_PSO G) (IsA.strs _)
  obtain ⟨a_STRICT, c_STRICT, sq_STRICT⟩ := B.c_STRICT
  have g_STRICT : ∀ G, Is K G (.ref a_STRICT) D_STRICT := fun G => .tup (sq_STRICT G) (IsA.strs _)
  obtain ⟨a_TSO, c_TSO, sq_TSO⟩ := B.c_TSO
  have g_TSO : ∀ G, Is K G (.ref a_TSO) D_TSO := fun G => .tup (sq_TSO G) (IsA.strs _)
  refine Fn.mkP A sc_law_orders_told (fun _ _ _ _ _ _ us hl => match us, hl with | [], _ => rfl) (fun ds d h => by obtain ⟨e, _⟩ := h; subst e; rfl) fun f cdv A outer s H E hr => ⟨_,
    (pss_cons (ps_set (i := 0) sc_law_orders_told.nd rfl (.inl rfl) (pe_fn0 C_law_orders (hr.mono (by decide)) (by rfl)))
      (pss_cons (ps_set (i := 1) sc_law_orders_told.nd rfl (.inl rfl) (pe_fn0 C_all_orders (hr.mono (by decide)) (by rfl)))
      (pss_cons (ps_if (pt_not (pt_val (pe_fn C_law_same (hr.mono (by decide)) (by rfl) (pa_cons (pv 1) (pa_cons (pv 0) pa_nil))))) (pss_one (ps_ret pe_bl)) pss_nil)
      (pss_cons (ps_expr (bmK (K := K) (id := "list.append") rfl (pe_bm PySem.F.plainAttrs_list PySem.F.slot_list_append PySem.F.type_list_append mt_append (pv 1) (pa_cons (pe_tup (pa_cons pe_str pa_nil)) pa_nil))))
      (pss_cons (ps_asg (pe_tup (pa_cons pe_str (pa_cons pe_str pa_nil))) (pg_sub (pv 1) pe_int set_list))
      (pss_cons (ps_if (pt_not (pt_val (pe_fn C_law_same (hr.mono (by decide)) (by rfl) (pa_cons (pe_fn0 C_all_orders (hr.mono (by decide)) (by rfl)) (pa_cons (pv 0) pa_nil))))) (pss_one (ps_ret pe_bl)) pss_nil)
      (pss_cons (ps_for PassesOwn.never rfl (piA (K := K) rfl (pv 0)) (pg_name (i := 2) sc_law_orders_told.nd rfl (.inr rfl)) (pss_one (ps_for PassesOwn.never rfl (piA (K := K) rfl (pv 0)) (pg_name (i := 3) sc_law_orders_told.nd rfl (.inl rfl)) (pss_cons (ps_set (i := 4) sc_law_orders_told.nd rfl (.inl rfl) (pe_cmpR op_eq (pe_callB (callLenU (K := K) rfl) (by rfl) B.m_len (by decide +kernel) (pa_cons (pe_lc (own := [("pair", 5)]) (tt := _) rfl sc_law_orders_told.nd (piA (K := K) rfl (pv 3)) (blkOk_by (own := [("pair", 5)]) (N := ["orders", "told", "order", "other", "due", "pair"]) (sc := defScope s_law_orders_told) (by decide +kernel)) (fun _ _ _ _ _ => (pg_name (i := 5) sc_law_orders_told.nd rfl (.inl rfl))) (fun _ _ _ _ _ => pts_one (pt_cmpR (opInU (K := K) rfl) (pv 5) (pv 2) (by with_unfolding_all rfl))) (fun _ _ _ _ _ => (pv 5))) pa_nil)) (pe_callB (callLenU (K := K) rfl) (by rfl) B.m_len (by decide +kernel) (pa_cons (pv 3) pa_nil)) (nomark _))) (pss_one (ps_if (pt_not (pt_val (pe_fn C_law_same (hr.mono (by decide)) (by rfl) (pa_cons (pe_fn C_includes (hr.mono (by decide)) (by rfl) (pa_cons (pv 2) (pa_cons (pv 3) pa_nil))) (pa_cons (pv 4) pa_nil))))) (pss_one (ps_ret pe_bl)) pss_nil))))))
      (pss_one (ps_ret (pe_fn C_law_same (hr.mono (by decide)) (by rfl) (pa_cons (pe_tup (pa_cons (pe_glob (v := .ref a_STRICT) (by rfl) c_STRICT rfl) (pa_cons (pe_glob (v := .ref a_TSO) (by rfl) c_TSO rfl) (pa_cons (pe_glob (v := .ref a_PSO) (by rfl) c_PSO rfl) (pa_cons (pe_glob (v := .ref a_LOOSE) (by rfl) c_LOOSE rfl) pa_nil))))) (pa_cons (pe_tup (pa_cons (pe_ix (ixA (K := K) rfl) (pv 0) pe_int (fun _ _ => rfl)) (pa_cons (pe_ix (ixA (K := K) rfl) (pv 0) pe_int (fun _ _ => rfl)) (pa_cons (pe_ix (ixA (K := K) rfl) (pv 0) pe_int (fun _ _ => rfl)) (pa_cons (pe_ix (ixA (K := K) rfl) (pv 0) pe_int (fun _ _ => rfl)) pa_nil))))) pa_nil)))))))))))), ?_⟩
  try dsimp only [cxOf, Cx.nox, Cx.wish]
  intro G os ds d vs Q hO hv hp q
  obtain ⟨rfl, hpre, rfl⟩ := hp
  have := hv.nil_inv; subst this
  rw [show start ["orders", "told", "order", "other", "due", "pair"] [] = [none, none, none, none, none, none] from rfl]

  have okO : okD 8 (.lst (ORD.map strD)) = true := by rfl
  have z8 : ∀ o ∈ ORD, o.length ≤ 3 := by decide +kernel
  walk_at "seq"
  with_reducible refine' s_asg ?hO18 ?he18 ?hn18 ?_
  case hO18 => assumption
  case he18 => walk_at "ev"
  case hn18 => intro _; rfl
  intro vo G1 H1 e1 hO1 io
  dsimp only [List.set]
  walk_at "seq"
  with_reducible refine' s_asgO ?hO19 ?he19 ?_
  case hO19 => assumption
  case he19 => walk_at "en"
  intro lt xt G2 H2 e2 hO2 it
  dsimp only [List.set]
  walk_at "seq"
  with_reducible refine' s_ifF ?hO20 ?ht20 ?hb20 ?_
  case hO20 => assumption
  case ht20 =>
    with_reducible refine' et_lend ?hlend
    case hlend =>
     intro G_ e_ f_
     have l_ := Is.lst (K := K) (H := upd G_ lt (.lst _)) upd_same (IsA.mono (K := K) (by walk_at "ex") it)
     walk_at "et"
  case hb20 => walk_at "kb"
  intro _ _
  try (with_reducible refine' s_nx ?_)
  have hlen : xt.length = 8 := it.length
  walk_at "seq"
  with_reducible refine' s_app (j := 0) ?hO22 ?hl22 ?hj22 ?hz22 ?he22 ?_
  case hO22 => assumption
  case hl22 => rfl
  case hj22 => rfl
  case he22 => walk_at "ev"
  case hz22 => walk_at "sz"
  intro w G3 H3 e3 hO3 iw
  dsimp only [List.set] at *
  walk_at "seq"
  with_reducible refine' s_setL (j := 0) (n := 0) ?hO21 ?he21 ?hl21 ?hn21 ?hj21 ?hz21 ?_
  case hO21 => assumption
  case hl21 => rfl
  case hj21 => rfl
  case he21 => walk_at "ev"
  case hn21 => walk_at "ev"
  case hz21 => walk_at "sz"
  intro w2 G4 H4 e4 hO4 iw2
  dsimp only [List.set] at *
  generalize hos : ((lt, HO.lst ((xt ++ [w]).set 0 w2)) :: os) = os2 at *
  have io4 : Is K G4 vo (.lst (ORD.map strD)) := io.mono (by walk_at "ex")
  walk_at "ifF"
  walk_at "seq"
  with_reducible refine' s_forL (Pv := (fun G' m σ' H' => ∃ a b c, σ' = [some vo, some (.ref lt), a, b, c, none] ∧ Evl.Ex G4 G' ∧ Own K G' H' os2)) ?hO23 ?he23 ?h023 ?hl23 ?hs23 ?hd23
  case hO23 => assumption
  case he23 => first | walk_at "ea" | walk_at "ev"
  case h023 => intro G' H' e hO'; exact ⟨_, _, _, rfl, e, hO'⟩
  case hl23 => intro G' m σ' H' ⟨_, _, _, _, _, hO'⟩; exact hO'.ex
  case hs23 =>
    intro G' m x v σ' H' e0 hx iv ⟨_, b0, c0, hσ, e, hO'⟩
    obtain ⟨o, ho, rfl⟩ := strD_at hx
    subst hσ
    dsimp only [gName, List.set]
    with_reducible refine' s_forL (Pv := (fun G' m σ' H' => ∃ b c, σ' = [some vo, some (.ref lt), some v, b, c, none] ∧ Evl.Ex G4 G' ∧ Own K G' H' os2)) ?hO24 ?he24 ?h024 ?hl24 ?hs24 ?hd24
    case hO24 => assumption
    case he24 => first | walk_at "ea" | walk_at "ev"
    case h024 => intro G'' H' e' hO'; exact ⟨_, _, rfl, e.trans e', hO'⟩
    case hl24 => intro G' m σ' H' ⟨_, _, _, _, hO'⟩; exact hO'.ex
    case hs24 =>
      intro G'' m2 x2 v2 σ' H' e02 hx2 iv2 ⟨_, c0, hσ, e', hO'⟩
      obtain ⟨t, ht, rfl⟩ := strD_at hx2
      subst hσ
      dsimp only [gName, List.set]
      have hl3 := z8 t ht
      have iv' : Is K G' v (.tup (o.map .str)) := iv
      have iv2' : Is K G'' v2 (.tup (t.map .str)) := iv2
      have pinc : P_includes [strD o, strD t] (.bl (inclB o t)) := ⟨_, _, rfl, trivial, rfl⟩
      walk_at "seq"
      with_reducible refine' s_asgF (d := .bl (inclB o t)) ?aO ?ae ?af ?an ?_
      case aO => assumption
      case af => rfl
      case an => walk_at "nrm"
      case ae =>
        with_reducible refine' ev_is (d := .bl (decide (((((List.range (t.map D.str).length).filter fun m => decide (t.getD m "" ∈ o)).map fun m => D.str (t.getD m "")).length : Int) = ((t.map D.str).length : Int)))) ?b1 ?b2
        case b2 =>
          rw [List.length_map, List.length_map]
          exact congrArg D.bl (incl_len o t)
        case b1 =>
          with_reducible refine' ev_op ?hr ?ha ?hb
          case hb => walk_at "ev"
          case ha =>
            with_reducible refine' ev_cb ?hr2 ?ha2
            case ha2 =>
              with_reducible refine' ea_cons ?ha3 ?hr3
              case hr3 => walk_at "ea"
              case ha3 =>
                with_reducible refine' ev_new ?ha4
                case ha4 =>
                  with_reducible refine' en_lcTF (ds := t.map D.str) (f := fun m => D.str (t.getD m "")) (b := fun m => decide (t.getD m "" ∈ o)) ?h5 ?hz5 ?he5
                  case h5 => walk_at "ev"
                  case hz5 => rw [List.length_map]; omega
                  case he5 =>
                    intro m x u G5 H5 R e5 e6 hx hu hR
                    obtain ⟨s, hs, rfl⟩ := str_at hx
                    have := hu.str_inv; subst this
                    have eg : t.getD m "" = s := by rw [List.getD_eq_getElem?_getD, hs]; rfl
                    dsimp only [wipe, List.map, List.set, gName]
                    refine hR _ rfl (fun p => ?_) (fun _ p => ?_)
                    · rw [eg]
                      walk_at "et"
                    · rw [eg]
                      walk_at "ev"
            case hr2 => exact lu_L
          case hr => exact rb_eqI
      intro _ _
      walk_at "ifF1"
      exact ⟨_, _, rfl, e', ‹_›⟩
    case hd24 =>
      intro G'' σ' H' _ ⟨b, c, hσ, e', hO'⟩
      subst hσ
      exact ⟨_, _, _, rfl, e, hO'.weak (by assumption)⟩
  case hd23 =>
    intro G' σ' H' _ ⟨_, _, _, hσ, e, hO'⟩
    subst hσ
    have x7 : atI (ORD.map strD) 7 = some (strD ["RR", "WR", "WW"]) := by rfl
    have x5 : atI (ORD.map strD) 5 = some (strD ["RR", "WW"]) := by rfl
    have x1 : atI (ORD.map strD) 1 = some (strD ["RR"]) := by rfl
    have x0 : atI (ORD.map strD) 0 = some (strD []) := by rfl
    have ps : P_law_same 8 [.tup [D_STRICT, D_TSO, D_PSO, D_LOOSE], .tup [strD ["RR", "WR", "WW"], strD ["RR", "WW"], strD ["RR"], strD []]] (.bl true) := p_same (by rfl)
    subst hos
    with_reducible refine' s_out (ms := [_]) ?k ?hO ?he ?hQ ?ev ?_
    case hO => assumption
    case k => assumption
    case he => walk_at "ex"
    case hQ => rfl
    case ev => walk_at "ev"
    rfl
end
theorem kinds_at {m : Nat} {x : D} (h : ([D.str "ll", D.str "ls", D.str "lx", D.str "sl", D.str "ss", D.str "sx", D.str "xl", D.str "xs", D.str "xx"] : List D)[m]? = some x) : ∃ c d, isK c ∧ isK d ∧ x = .str ⟨#[c, d]⟩ := by
  have k1 : isK 108 := .inl rfl
  have k2 : isK 115 := .inr (.inl rfl)
  have k3 : isK 120 := .inr (.inr rfl)
  match m, h with
  | 0, h => cases h; exact ⟨108, 108, k1, k1, rfl⟩
  | 1, h => cases h; exact ⟨108, 115, k1, k2, rfl⟩
  | 2, h => cases h; exact ⟨108, 120, k1, k3, rfl⟩
  | 3, h => cases h; exact ⟨115, 108, k2, k1, rfl⟩
  | 4, h => cases h; exact ⟨115, 115, k2, k2, rfl⟩
  | 5, h => cases h; exact ⟨115, 120, k2, k3, rfl⟩
  | 6, h => cases h; exact ⟨120, 108, k3, k1, rfl⟩
  | 7, h => cases h; exact ⟨120, 115, k3, k2, rfl⟩
  | 8, h => cases h; exact ⟨120, 120, k3, k3, rfl⟩
  | n + 9, h => simp at h
theorem okD_nats {ms : List Nat} {n : Nat} (h : ms.length ≤ 100000) : okD (n + 2) (.lst (ms.map nI)) = true := by
  show (decide ((ms.map nI).length ≤ 100000) && (ms.map nI).all (okD (n + 1))) = true
  rw [List.length_map, decide_eq_true h, Bool.true_and, List.all_eq_true]
  intro x hx
  obtain ⟨a, _, rfl⟩ := List.mem_map.mp hx
  rfl

abbrev P_law : List D → D → Prop := fun dIn dOut => ∃ (ns : List Int), dIn = [.frl (ns.map .int)] ∧ (ns.length ≤ 63) ∧ dOut = .bl true
section
variable {P : Program} {w : World} {K : PySem.W.Frag} {mg : Str → Option Value} {base : Heap}
theorem ok_law (B : Bi K mg) (A : At K mg "law" s_law) (C_law_draws : Fn P w K mg base "_law_draws" 2 ["cell", "count", "base"] (Pr K P_law_draws)) (C_law_orders_told : Fn P w K mg base "_law_orders_told" 10 [] (Pr K P_law_orders_told)) (C_law_cell : Fn P w K mg base "_law_cell" 1 ["script", "k"] (Pr K P_law_cell)) (C_law_event : Fn P w K mg base "_law_event" 1 ["kind", "word", "byte", "size"] (Pr K P_law_event)) (C_law_orders : Fn P w K mg base "_law_orders" 1 [] (PrO K P_law_orders)) (C_law_due : Fn P w K mg base "_law_due" 2 ["order", "first", "second", "masks", "depends", "rest"] (Pr K P_law_due)) (C_law_same : Fn P w K mg base "_law_same" 9 ["told", "due"] (Pr K (P_law_same 8))) (C_kept : Fn P w K mg base "kept" 3 ["order", "first", "second", "masks", "depends", "rest"] (Pr K P_kept)) : Fn P w K mg base "law" 11 ["script"] (Pr K P_law) := by
  refine Fn.mkP A sc_law (fun _ _ _ _ _ _ us hl => match us, hl with | [_], _ => rfl) (fun ds d h => by obtain ⟨_, e, _⟩ := h; subst e; rfl) fun f cdv A outer s H E hr => ⟨_,
    (pss_cons (ps_set (i := 1) sc_law.nd rfl (.inl rfl) (pe_fn C_law_draws (hr.mono (by decide)) (by rfl) (pa_cons (pe_fn C_law_cell (hr.mono (by decide)) (by rfl) (pa_cons (pv 0) (pa_cons pe_int pa_nil))) (pa_cons pe_int (pa_cons pe_int pa_nil)))))
      (pss_cons (ps_set (i := 2) sc_law.nd rfl (.inl rfl) (pe_fn C_law_draws (hr.mono (by decide)) (by rfl) (pa_cons (pe_fn C_law_cell (hr.mono (by decide)) (by rfl) (pa_cons (pv 0) (pa_cons pe_int pa_nil))) (pa_cons pe_int (pa_cons pe_int pa_nil)))))
      (pss_cons (ps_set (i := 3) sc_law.nd rfl (.inl rfl) (pe_op (opAdd (K := K) rfl) pe_int (pe_op op_mod (pe_ix (ixA (K := K) rfl) (pv 1) pe_int (fun _ _ => rfl)) pe_int)))
      (pss_cons (ps_set (i := 4) sc_law.nd rfl (.inl rfl) (pe_lst (pa_cons (pe_op op_mod (pe_ix (ixA (K := K) rfl) (pv 1) pe_int (fun _ _ => rfl)) pe_int) (pa_cons (pe_op op_mod (pe_ix (ixA (K := K) rfl) (pv 1) pe_int (fun _ _ => rfl)) pe_int) pa_nil))))
      (Evl.pss_cut (ps_if (pt_cmpR op_eq (pe_op op_mod (pe_ix (ixA (K := K) rfl) (pv 1) pe_int (fun _ _ => rfl)) pe_int) pe_int (nomark _)) (pss_one (ps_asg (pe_op op_mod (pe_ix (ixA (K := K) rfl) (pv 1) pe_int (fun _ _ => rfl)) pe_int) (pg_sub (pv 4) pe_int set_list))) pss_nil)
      (pss_cons (ps_set (i := 5) sc_law.nd rfl (.inl rfl) (pe_lst (pa_cons (pe_op op_mod (pe_ix (ixA (K := K) rfl) (pv 1) pe_int (fun _ _ => rfl)) (pe_op (opAdd (K := K) rfl) (pv 3) pe_int)) (pa_cons (pe_op op_mod (pe_ix (ixA (K := K) rfl) (pv 1) pe_int (fun _ _ => rfl)) (pe_op (opAdd (K := K) rfl) (pv 3) pe_int)) pa_nil))))
      (Evl.pss_cut (ps_if (pt_cmpR op_eq (pe_op op_mod (pe_ix (ixA (K := K) rfl) (pv 1) pe_int (fun _ _ => rfl)) pe_int) pe_int (nomark _)) (pss_one (ps_asg (pe_ix (ixA (K := K) rfl) (pv 5) pe_int (fun _ _ => rfl)) (pg_sub (pv 5) pe_int set_list))) pss_nil)
      (pss_cons (ps_set (i := 6) sc_law.nd rfl (.inl rfl) (pe_cmpR op_eq (pe_op op_mod (pe_ix (ixA (K := K) rfl) (pv 1) pe_int (fun _ _ => rfl)) pe_int) pe_int (nomark _)))
      (pss_cons (ps_set (i := 7) sc_law.nd rfl (.inl rfl) (pe_cmpR op_eq (pe_op op_mod (pe_ix (ixA (K := K) rfl) (pv 1) pe_int (fun _ _ => rfl)) pe_int) pe_int (nomark _)))
      (pss_cons (ps_setLc (i := 8) (own := [("x", 15)]) (tt := tYes) rfl sc_law.nd rfl rfl (sw_true rfl rfl rfl (by decide +kernel)) (piA (K := K) rfl (pe_slice (slL (K := K) rfl) (pv 2) (po_some pe_int) (po_some (pe_op (opAdd (K := K) rfl) pe_int (pe_op op_mod (pe_ix (ixA (K := K) rfl) (pv 2) pe_int (fun _ _ => rfl)) pe_int))))) (blkOk_by (own := [("x", 15)]) (N := ["script", "draws", "more", "size", "words", "bytes_of", "depends", "rest", "masks", "handed", "kinds", "first", "second", "order", "due", "x"]) (sc := defScope s_law) (by decide +kernel)) (fun _ _ _ _ _ => (pg_name (i := 15) sc_law.nd rfl (.inl rfl))) (fun _ _ _ _ _ => pts_nil) (fun _ _ _ _ _ => (pe_op op_mod (pv 15) pe_int)))
      (pss_cons (ps_set (i := 9) sc_law.nd rfl (.inl rfl) (pe_callTy (callList (K := K) rfl) (by rfl) B.m_list (by decide +kernel) (pa_cons (pv 8) pa_nil)))
      (pss_cons (ps_for PassesOwn.never rfl (piA (K := K) rfl (pe_lst (pa_cons pe_str (pa_cons pe_str (pa_cons pe_str (pa_cons pe_str (pa_cons pe_str (pa_cons pe_str (pa_cons pe_str (pa_cons pe_str (pa_cons pe_str pa_nil))))))))))) (pg_name (i := 10) sc_law.nd rfl (.inl rfl)) (pss_cons (ps_set (i := 11) sc_law.nd rfl (.inl rfl) (pe_fn C_law_event (hr.mono (by decide)) (by rfl) (pa_cons (pe_ix (ixA (K := K) rfl) (pv 10) pe_int (fun _ _ => rfl)) (pa_cons (pe_ix (ixA (K := K) rfl) (pv 4) pe_int (fun _ _ => rfl)) (pa_cons (pe_ix (ixA (K := K) rfl) (pv 5) pe_int (fun _ _ => rfl)) (pa_cons (pv 3) pa_nil)))))) (pss_cons (ps_set (i := 12) sc_law.nd rfl (.inl rfl) (pe_fn C_law_event (hr.mono (by decide)) (by rfl) (pa_cons (pe_ix (ixA (K := K) rfl) (pv 10) pe_int (fun _ _ => rfl)) (pa_cons (pe_ix (ixA (K := K) rfl) (pv 4) pe_int (fun _ _ => rfl)) (pa_cons (pe_ix (ixA (K := K) rfl) (pv 5) pe_int (fun _ _ => rfl)) (pa_cons (pv 3) pa_nil)))))) (pss_cons (ps_for PassesOwn.never rfl (piA (K := K) rfl (pe_fn0 C_law_orders (hr.mono (by decide)) (by rfl))) (pg_name (i := 13) sc_law.nd rfl (.inl rfl)) (pss_cons (ps_set (i := 14) sc_law.nd rfl (.inl rfl) (pe_fn C_law_due (hr.mono (by decide)) (by rfl) (pa_cons (pv 13) (pa_cons (pv 11) (pa_cons (pv 12) (pa_cons (pv 8) (pa_cons (pv 6) (pa_cons (pv 7) pa_nil)))))))) (pss_cons (ps_if (pt_not (pt_val (pe_fn C_law_same (hr.mono (by decide)) (by rfl) (pa_cons (pe_fn C_kept (hr.mono (by decide)) (by rfl) (pa_cons (pv 13) (pa_cons (pv 11) (pa_cons (pv 12) (pa_cons (pv 9) (pa_cons (pv 6) (pa_cons (pv 7) pa_nil))))))) (pa_cons (pv 14) pa_nil))))) (pss_one (ps_ret pe_bl)) pss_nil) (pss_one (ps_if (pt_not (pt_val (pe_fn C_law_same (hr.mono (by decide)) (by rfl) (pa_cons (pe_fn C_kept (hr.mono (by decide)) (by rfl) (pa_cons (pv 13) (pa_cons (pv 11) (pa_cons (pv 12) (pa_cons (pe_callTy (callTup (K := K) rfl) (by rfl) B.m_tuple (by decide +kernel) (pa_cons (pv 8) pa_nil)) (pa_cons (pv 6) (pa_cons (pv 7) pa_nil))))))) (pa_cons (pv 14) pa_nil))))) (pss_one (ps_ret pe_bl)) pss_nil))))) (pss_cons (ps_if (pt_not (pt_val (pe_fn C_law_same (hr.mono (by decide)) (by rfl) (pa_cons (pv 9) (pa_cons (pv 8) pa_nil))))) (pss_one (ps_ret pe_bl)) pss_nil) (pss_cons (ps_expr (bmK (K := K) (id := "list.append") rfl (pe_bm PySem.F.plainAttrs_list PySem.F.slot_list_append PySem.F.type_list_append mt_append (pv 9) (pa_cons (pe_op op_mod (pe_ix (ixA (K := K) rfl) (pv 2) pe_int (fun _ _ => rfl)) pe_int) pa_nil)))) (pss_cons (ps_for PassesOwn.never rfl (piA (K := K) rfl (pe_fn0 C_law_orders (hr.mono (by decide)) (by rfl))) (pg_name (i := 13) sc_law.nd rfl (.inl rfl)) (pss_cons (ps_set (i := 14) sc_law.nd rfl (.inl rfl) (pe_fn C_law_due (hr.mono (by decide)) (by rfl) (pa_cons (pv 13) (pa_cons (pv 11) (pa_cons (pv 12) (pa_cons (pe_op (opAdd (K := K) rfl) (pv 8) (pe_lst (pa_cons (pe_op op_mod (pe_ix (ixA (K := K) rfl) (pv 2) pe_int (fun _ _ => rfl)) pe_int) pa_nil))) (pa_cons (pv 6) (pa_cons (pv 7) pa_nil)))))))) (pss_one (ps_if (pt_not (pt_val (pe_fn C_law_same (hr.mono (by decide)) (by rfl) (pa_cons (pe_fn C_kept (hr.mono (by decide)) (by rfl) (pa_cons (pv 13) (pa_cons (pv 11) (pa_cons (pv 12) (pa_cons (pv 9) (pa_cons (pv 6) (pa_cons (pv 7) pa_nil))))))) (pa_cons (pv 14) pa_nil))))) (pss_one (ps_ret pe_bl)) pss_nil)))) (pss_one (ps_expr (bm0K (K := K) (id := "list.pop") rfl (pe_bm0 PySem.F.plainAttrs_list PySem.F.slot_list_pop PySem.F.type_list_pop mt_pop (pv 9))))))))))))
      (pss_one (ps_ret (pe_fn0 C_law_orders_told (hr.mono (by decide)) (by rfl)))))))))))))))), ?_⟩
  try dsimp only [cxOf, Cx.nox, Cx.wish]
  intro G os ds d vs Q hO hv hp q
  obtain ⟨ns, rfl, hpre, rfl⟩ := hp
  obtain ⟨v1, _, rfl, i1, hv⟩ := hv.cons_inv
  have := hv.nil_inv; subst this
  rw [show start ["script", "draws", "more", "size", "words", "bytes_of", "depends", "rest", "masks", "handed", "kinds", "first", "second", "order", "due", "x"] [v1] = [some (v1), none, none, none, none, none, none, none, none, none, none, none, none, none, none, none] from rfl]

  have pc0 : P_law_cell [.frl (ns.map .int), .int 0] (.int ((ns.getD 0 0).natAbs : Int)) := ⟨ns, 0, rfl, trivial, rfl⟩
  have pc1 : P_law_cell [.frl (ns.map .int), .int 1] (.int ((ns.getD 1 0).natAbs : Int)) := ⟨ns, 1, rfl, trivial, rfl⟩
  have pd0 : P_law_draws [.int ((ns.getD 0 0).natAbs : Int), .int 9, .int 1000] (.lst ((draws (ns.getD 0 0).natAbs 9 1000).map nI)) := ⟨_, 9, 1000, rfl, ⟨by decide, by decide⟩, rfl⟩
  have pd1 : P_law_draws [.int ((ns.getD 1 0).natAbs : Int), .int 8, .int 1000] (.lst ((draws (ns.getD 1 0).natAbs 8 1000).map nI)) := ⟨_, 8, 1000, rfl, ⟨by decide, by decide⟩, rfl⟩
  obtain ⟨dr, hdr⟩ : ∃ d, d = draws (ns.getD 0 0).natAbs 9 1000 := ⟨_, rfl⟩
  obtain ⟨mr, hmr⟩ : ∃ d, d = draws (ns.getD 1 0).natAbs 8 1000 := ⟨_, rfl⟩
  have hl9 : dr.length = 9 := by rw [hdr]; exact drw_len _ 1000 9
  have hl8 : mr.length = 8 := by rw [hmr]; exact drw_len _ 1000 8
  rw [← hdr] at pd0
  rw [← hmr] at pd1
  have a0 : atI (dr.map nI) 0 = some (.int (dr.getD 0 0 : Int)) := at_nI (by omega) rfl
  have a1 : atI (dr.map nI) 1 = some (.int (dr.getD 1 0 : Int)) := at_nI (by omega) rfl
  have a2 : atI (dr.map nI) 2 = some (.int (dr.getD 2 0 : Int)) := at_nI (by omega) rfl
  have a3 : atI (dr.map nI) 3 = some (.int (dr.getD 3 0 : Int)) := at_nI (by omega) rfl
  have a4 : atI (dr.map nI) 4 = some (.int (dr.getD 4 0 : Int)) := at_nI (by omega) rfl
  have a5 : atI (dr.map nI) 5 = some (.int (dr.getD 5 0 : Int)) := at_nI (by omega) rfl
  have a6 : atI (dr.map nI) 6 = some (.int (dr.getD 6 0 : Int)) := at_nI (by omega) rfl
  have a7 : atI (dr.map nI) 7 = some (.int (dr.getD 7 0 : Int)) := at_nI (by omega) rfl
  have a8 : atI (dr.map nI) 8 = some (.int (dr.getD 8 0 : Int)) := at_nI (by omega) rfl
  have m0 : atI (mr.map nI) 0 = some (.int (mr.getD 0 0 : Int)) := at_nI (by omega) rfl
  have m1 : atI (mr.map nI) 1 = some (.int (mr.getD 1 0 : Int)) := at_nI (by omega) rfl
  walk_at "seq"
  with_reducible refine' s_asg ?hO26 ?he26 ?hn26 ?_
  case hO26 => assumption
  case he26 => walk_at "ev"
  case hn26 => intro _; rfl
  intro vd G1 H1 e1 hO1 id1
  dsimp only [List.set]
  walk_at "seq"
  with_reducible refine' s_asg ?hO27 ?he27 ?hn27 ?_
  case hO27 => assumption
  case he27 => walk_at "ev"
  case hn27 => intro _; rfl
  intro vm G2 H2 e2 hO2 im2
  dsimp only [List.set]
  walk_at "seq"
  with_reducible refine' s_asgV (n := ((1 + dr.getD 0 0 % 4 : Nat) : Int)) ?hO25 ?he25 ?hd25 ?hn25 ?_
  case hO25 => assumption
  case he25 => walk_at "ev"
  case hn25 => walk_at "nrm"
  case hd25 => exact congrArg D.int (by omega)
  intro _ _
  have hs4 : 1 ≤ 1 + dr.getD 0 0 % 4 ∧ 1 + dr.getD 0 0 % 4 ≤ 4 := by omega
  generalize 1 + dr.getD 0 0 % 4 = sz at *
  walk_at "seq"
  with_reducible refine' s_asgO ?hO30 ?he30 ?_
  case hO30 => assumption
  case he30 => walk_at "en"
  intro lw xw G3 H3 e3 hO3 iw
  dsimp only [List.set]
  have cm : ∀ (a b : Nat), ((a : Int) % (b : Int)) = ((a % b : Nat) : Int) := fun a b => by push_cast; rfl
  obtain ⟨w0, hw0⟩ : ∃ w0 : Nat, xw = [V.int (w0 : Int), V.int (w0 : Int)] := by
    refine ⟨dr.getD 1 0 % 32, ?_⟩
    cases iw with
    | cons h1 h2 => cases h2 with
      | cons h3 h4 =>
        cases h4
        rw [h1.int_inv, h3.int_inv]
        rfl
  subst hw0
  refine s_cut (M := fun σ' H' => ∃ w1 : Nat, σ' = [some v1, some vd, some vm, some (V.int (sz : Int)), some (.ref lw), none, none, none, none, none, none, none, none, none, none, none] ∧ Own K G3 H' ((lw, .lst [V.int (w0 : Int), V.int (w1 : Int)]) :: os)) ?hA ?hB
  case hA =>
    walk_at "if1"
    · intro hb _ _
      with_reducible refine' s_setL (j := 0) (n := 1) ?hO36 ?he36 ?hl36 ?hn36 ?hj36 ?hz36 ?_
      case hO36 => assumption
      case hl36 => rfl
      case hj36 => rfl
      case he36 => walk_at "ev"
      case hn36 => walk_at "ev"
      case hz36 => walk_at "sz"
      intro w G4 H4 e4 hO4 iw2
      dsimp only [List.set] at *
      have := iw2.int_inv; subst this
      exact ⟨dr.getD 3 0 % 32, rfl, hO4.weak e4⟩
    · intro hb _ _
      walk_at "st"
      exact ⟨w0, rfl, ‹_›⟩
  case hB =>
   intro σ' H3' ⟨w1, hσ, hO3'⟩
   subst hσ
   have ew := hO3'.freezeEx
   have iwD : Is K (upd G3 lw (.lst [V.int (w0 : Int), V.int (w1 : Int)])) (.ref lw) (.lst [.int (w0 : Int), .int (w1 : Int)]) := .lst upd_same (.cons (.int _) (.cons (.int _) .nil))
   have hO4 := hO3'.freeze
   obtain ⟨G4, hG4⟩ : ∃ G4, G4 = upd G3 lw (.lst [V.int (w0 : Int), V.int (w1 : Int)]) := ⟨_, rfl⟩
   rw [← hG4] at ew iwD hO4
   clear hO3' hG4
   walk_at "seq"
   with_reducible refine' s_asgO ?hO31 ?he31 ?_
   case hO31 => assumption
   case he31 => walk_at "en"
   intro lb xb G5 H5 e5 hO5 ib
   dsimp only [List.set]
   obtain ⟨b0, b1, hb01⟩ : ∃ b0 b1 : Nat, xb = [V.int (b0 : Int), V.int (b1 : Int)] := by
     refine ⟨dr.getD 4 0 % (sz + 1), dr.getD 5 0 % (sz + 1), ?_⟩
     cases ib with
     | cons h1 h2 => cases h2 with
       | cons h3 h4 =>
         cases h4
         rw [h1.int_inv, h3.int_inv, ← cm, ← cm]
         rfl
   subst hb01
   refine s_cut (M := fun σ' H' => ∃ b1 : Nat, σ' = [some v1, some vd, some vm, some (V.int (sz : Int)), some (.ref lw), some (.ref lb), none, none, none, none, none, none, none, none, none, none] ∧ Own K G5 H' ((lb, .lst [V.int (b0 : Int), V.int (b1 : Int)]) :: os)) ?hC ?hD
   case hC =>
     walk_at "if1"
     · intro hb _ _
       with_reducible refine' s_setL (j := 0) (n := 1) (d := .int (b0 : Int)) ?zO ?ze ?zl ?zn ?zj ?zz ?_
       case zO => assumption
       case zl => rfl
       case zj => rfl
       case zn => walk_at "ev"
       case zz => walk_at "sz"
       case ze =>
         with_reducible refine' ev_lend ?zf ?zh
         case zf => rfl
         case zh =>
           intro G_ e_ f_
           have l_ : Is K (upd G_ lb (.lst [V.int (b0 : Int), V.int (b1 : Int)])) (.ref lb) (.lst [.int (b0 : Int), .int (b1 : Int)]) := .lst upd_same (.cons (.int _) (.cons (.int _) .nil))
           have a_ : atI [D.int (b0 : Int), D.int (b1 : Int)] 0 = some (.int (b0 : Int)) := by rfl
           walk_at "ev"
       intro w G4 H4 e4 hO4 iw2
       dsimp only [List.set] at *
       have := iw2.int_inv; subst this
       exact ⟨b0, rfl, hO4.weak e4⟩
     · intro hb _ _
       walk_at "st"
       exact ⟨b1, rfl, ‹_›⟩
   case hD =>
    intro σ' H5' ⟨b1, hσ, hO5'⟩
    subst hσ
    have eb := hO5'.freezeEx
    have ibD : Is K (upd G5 lb (.lst [V.int (b0 : Int), V.int (b1 : Int)])) (.ref lb) (.lst [.int (b0 : Int), .int (b1 : Int)]) := .lst upd_same (.cons (.int _) (.cons (.int _) .nil))
    have hO6 := hO5'.freeze
    obtain ⟨G6, hG6⟩ : ∃ G6, G6 = upd G5 lb (.lst [V.int (b0 : Int), V.int (b1 : Int)]) := ⟨_, rfl⟩
    rw [← hG6] at eb ibD hO6
    clear hO5' hG6
    walk_at "st"
    walk_at "st"
    generalize decide ((dr.getD 7 0 : Int) % 2 = 1) = dep
    generalize decide ((dr.getD 8 0 : Int) % 4 = 1) = rest
    obtain ⟨S0, hS0⟩ : ∃ S0, S0 = (mr.drop 2).take (mr.getD 0 0 % 7) := ⟨_, rfl⟩
    have hSl : S0.length ≤ 6 := by rw [hS0, List.length_take, List.length_drop]; omega
    have hS : cutD (mr.map nI) (some 2) (some (2 + (mr.getD 0 0 : Int) % 7)) = S0.map nI := by
      have h := cutD_nat (mr.map nI) 2 (2 + mr.getD 0 0 % 7) (by omega) (by rw [List.length_map]; omega)
      have e : ((2 + mr.getD 0 0 % 7 : Nat) : Int) = 2 + (mr.getD 0 0 : Int) % 7 := by omega
      rw [e] at h
      refine h.trans ?_
      rw [hS0, List.map_take, List.map_drop, Nat.add_sub_cancel_left]
    obtain ⟨ms, hms⟩ : ∃ ms, ms = S0.map (· % 16) := ⟨_, rfl⟩
    have hml : ms.length ≤ 6 := by rw [hms, List.length_map]; exact hSl
    have hmd : (List.range (S0.map nI).length).map (fun m => nI (S0.getD m 0 % 16)) = ms.map nI := by
      rw [hms, List.map_map]
      refine range_map (by rw [List.length_map]) fun m a h => ?_
      rw [List.getD_eq_getElem?_getD, h]
      rfl
    walk_at "seq"
    with_reducible refine' s_asg (d := .lst (ms.map nI)) ?sO ?se ?sn ?_
    case sO => assumption
    case sn => intro _; rfl
    case se =>
      rw [← hmd]
      with_reducible refine' ev_new ?s1
      case s1 =>
        with_reducible refine' en_lcL (ds := S0.map nI) ?s2 ?s3 ?s4
        case s2 =>
          with_reducible refine' ev_is ?s5 (congrArg D.lst hS)
          case s5 => walk_at "ev"
        case s3 => rw [List.length_map]; omega
        case s4 =>
          intro m x u G5 H5 R e5 e6 hx hu hR
          obtain ⟨s, hs, rfl⟩ := nI_at hx
          have := hu.int_inv; subst this
          have eg : nI (S0.getD m 0 % 16) = D.int ((s : Int) % 16) := by rw [List.getD_eq_getElem?_getD, hs]; rfl
          dsimp only [wipe, List.map, List.set, gName]
          refine hR _ rfl fun p => ?_
          rw [eg]
          walk_at "ev"
    intro vs G7 H7 e7 hO7 is7
    dsimp only [List.set]
    walk_at "seq"
    with_reducible refine' s_asgO ?hO32 ?he32 ?_
    case hO32 => assumption
    case he32 => walk_at "en"
    intro lh xh G8 H8 e8 hO8 ih
    dsimp only [List.set]
    have hxh := isA_toNats ih
    subst hxh
    have ims8 : Is K G8 vs (.lst (ms.map nI)) := is7.mono (by walk_at "ex")
    have iw8 : Is K G8 (.ref lw) (.lst [.int (w0 : Int), .int (w1 : Int)]) := iwD.mono (by walk_at "ex")
    have ib8 : Is K G8 (.ref lb) (.lst [.int (b0 : Int), .int (b1 : Int)]) := ibD.mono (by walk_at "ex")
    have im8 : Is K G8 vm (.lst (mr.map nI)) := im2.mono (by walk_at "ex")
    have id8 : Is K G8 vd (.lst (dr.map nI)) := id1.mono (by walk_at "ex")
    have aw0 : atI [D.int (w0 : Int), D.int (w1 : Int)] 0 = some (.int (w0 : Int)) := by rfl
    have aw1 : atI [D.int (w0 : Int), D.int (w1 : Int)] 1 = some (.int (w1 : Int)) := by rfl
    have ab0 : atI [D.int (b0 : Int), D.int (b1 : Int)] 0 = some (.int (b0 : Int)) := by rfl
    have ab1 : atI [D.int (b0 : Int), D.int (b1 : Int)] 1 = some (.int (b1 : Int)) := by rfl
    walk_at "seq"
    with_reducible refine' s_forL (Pv := (fun G' m σ' H' => ∃ a b c d e, σ' = [some v1, some vd, some vm, some (V.int (sz : Int)), some (.ref lw), some (.ref lb), some (.bl dep), some (.bl rest), some vs, some (.ref lh), a, b, c, d, e, none] ∧ Evl.Ex G8 G' ∧ Own K G' H' ((lh, .lst (ms.map vI)) :: os))) ?hO37 ?he37 ?h037 ?hl37 ?hs37 ?hd37
    case hO37 => assumption
    case he37 => first | walk_at "ea" | walk_at "ev"
    case h037 => intro G' H' e hO'; exact ⟨_, _, _, _, _, rfl, e, hO'⟩
    case hl37 => intro G' m σ' H' ⟨_, _, _, _, _, _, _, hO'⟩; exact hO'.ex
    case hs37 =>
      intro G9 m x v σ' H' e0 hx iv ⟨_, b, c, d, e, hσ, e9, hO9⟩
      obtain ⟨c1, c2, k1, k2, rfl⟩ := kinds_at hx
      have := iv.str_inv; subst this
      subst hσ
      dsimp only [gName, List.set]
      have z2 : (⟨#[c1, c2]⟩ : Str).length ≤ 100000 := show (2 : Nat) ≤ 100000 by decide
      have q0 : atI (⟨#[c1, c2]⟩ : Str).cps.toList 0 = some c1 := by rfl
      have q1 : atI (⟨#[c1, c2]⟩ : Str).cps.toList 1 = some c2 := by rfl
      have pe1 : P_law_event [.str (sg c1), .int (w0 : Int), .int (b0 : Int), .int (sz : Int)] (evD c1 w0 (evM c1 b0 sz)) := ⟨_, _, _, _, rfl, hs4, rfl⟩
      have pe2 : P_law_event [.str (sg c2), .int (w1 : Int), .int (b1 : Int), .int (sz : Int)] (evD c2 w1 (evM c2 b1 sz)) := ⟨_, _, _, _, rfl, hs4, rfl⟩
      walk_at "seq"
      with_reducible refine' s_asg ?hO28 ?he28 ?hn28 ?_
      case hO28 => assumption
      case he28 => walk_at "ev"
      case hn28 => intro _; rfl
      intro vf G10 H10 e10 hO10 if10
      dsimp only [List.set]
      walk_at "seq"
      with_reducible refine' s_asg ?hO29 ?he29 ?hn29 ?_
      case hO29 => assumption
      case he29 => walk_at "ev"
      case hn29 => intro _; rfl
      intro vg G11 H11 e11 hO11 ig11
      dsimp only [List.set]
      generalize evM c1 b0 sz = e1m at *
      generalize evM c2 b1 sz = e2m at *
      have okm : okD 8 (.lst (ms.map nI)) = true := okD_nats (by omega)
      have pdue : ∀ o, P_law_due [strD o, evD c1 w0 e1m, evD c2 w1 e2m, .lst (ms.map nI), .bl dep, .bl rest] (.bl (dueB o c1 w0 e1m c2 w1 e2m ms dep rest)) := fun o => ⟨_, _, _, _, _, _, _, _, _, _, rfl, ⟨k1, k2⟩, rfl⟩
      have pk : ∀ o, P_kept [strD o, evD c1 w0 e1m, evD c2 w1 e2m, .lst (ms.map nI), .bl dep, .bl rest] (.bl (dueB o c1 w0 e1m c2 w1 e2m ms dep rest)) := fun o => ⟨_, _, _, _, _, _, _, false, ms, _, _, rfl, trivial, congrArg D.bl (kept_due o w0 e1m w1 e2m ms dep rest k1 k2).symm⟩
      have pkt : ∀ o, P_kept [strD o, evD c1 w0 e1m, evD c2 w1 e2m, .tup (ms.map nI), .bl dep, .bl rest] (.bl (dueB o c1 w0 e1m c2 w1 e2m ms dep rest)) := fun o => ⟨_, _, _, _, _, _, _, true, ms, _, _, rfl, trivial, congrArg D.bl (kept_due o w0 e1m w1 e2m ms dep rest k1 k2).symm⟩
      have pdue2 : ∀ o, P_law_due [strD o, evD c1 w0 e1m, evD c2 w1 e2m, .lst (ms.map nI ++ [D.int ((mr.getD 1 0 : Int) % 16)]), .bl dep, .bl rest] (.bl (dueB o c1 w0 e1m c2 w1 e2m (ms ++ [mr.getD 1 0 % 16]) dep rest)) := fun o => ⟨_, _, _, _, _, _, _, ms ++ [mr.getD 1 0 % 16], _, _, by rw [List.map_append]; rfl, ⟨k1, k2⟩, rfl⟩
      have pk2 : ∀ o, P_kept [strD o, evD c1 w0 e1m, evD c2 w1 e2m, .lst (ms.map nI ++ [D.int ((mr.getD 1 0 : Int) % 16)]), .bl dep, .bl rest] (.bl (dueB o c1 w0 e1m c2 w1 e2m (ms ++ [mr.getD 1 0 % 16]) dep rest)) := fun o => ⟨_, _, _, _, _, _, _, false, ms ++ [mr.getD 1 0 % 16], _, _, by rw [List.map_append]; rfl, trivial, congrArg D.bl (kept_due o w0 e1m w1 e2m _ dep rest k1 k2).symm⟩
      have hcat : (ms.map nI).length + [D.int ((mr.getD 1 0 : Int) % 16)].length ≤ 100000 := by rw [List.length_map]; show ms.length + 1 ≤ 100000; omega
      walk_at "seq"
      with_reducible refine' s_forL (Pv := (fun G' m σ' H' => ∃ d e, σ' = [some v1, some vd, some vm, some (V.int (sz : Int)), some (.ref lw), some (.ref lb), some (.bl dep), some (.bl rest), some vs, some (.ref lh), some (V.str ⟨#[c1, c2]⟩), some vf, some vg, d, e, none] ∧ Evl.Ex G11 G' ∧ Own K G' H' ((lh, .lst (ms.map vI)) :: os))) ?hO38 ?he38 ?h038 ?hl38 ?hs38 ?hd38
      case hO38 => assumption
      case he38 => first | walk_at "ea" | walk_at "ev"
      case h038 => intro G' H' e hO'; exact ⟨_, _, rfl, e, hO'⟩
      case hl38 => intro G' m σ' H' ⟨_, _, _, _, hO'⟩; exact hO'.ex
      case hs38 =>
        intro G12 m x v σ' H' e0 hx iv ⟨_, _, hσ, e12, hO12⟩
        obtain ⟨o, ho, rfl⟩ := strD_at hx
        subst hσ
        dsimp only [gName, List.set]
        have pdo := pdue o
        have pko := pk o
        have pkto := pkt o
        clear pdue2 pk2 pdue pk pkt
        walk_at "st"
        walk_at "seq"
        with_reducible refine' s_ifF ?hO33 ?ht33 ?hb33 ?_
        case hO33 => assumption
        case ht33 =>
          with_reducible refine' et_lend ?hlend
          case hlend =>
           intro G_ e_ f_
           have l_ := Is.lst (K := K) (H := upd G_ lh (.lst _)) upd_same (IsA.mono (K := K) (by walk_at "ex") (isA_nI ms))
           walk_at "et"
        case hb33 => walk_at "kb"
        intro _ _
        try (with_reducible refine' s_nx ?_)
        walk_at "ifF1"
        exact ⟨_, _, rfl, e12, ‹_›⟩
      case hd38 =>
        intro G12 σ' H' _ ⟨_, _, hσ, e12, hO12⟩
        subst hσ
        walk_at "seq"
        with_reducible refine' s_ifF ?hO34 ?ht34 ?hb34 ?_
        case hO34 => assumption
        case ht34 =>
          with_reducible refine' et_lend ?hlend
          case hlend =>
           intro G_ e_ f_
           have l_ := Is.lst (K := K) (H := upd G_ lh (.lst _)) upd_same (IsA.mono (K := K) (by walk_at "ex") (isA_nI ms))
           walk_at "et"
        case hb34 => walk_at "kb"
        intro _ _
        try (with_reducible refine' s_nx ?_)
        walk_at "app"
        walk_at "seq"
        with_reducible refine' s_forL (Pv := (fun G' m σ' H' => ∃ d e, σ' = [some v1, some vd, some vm, some (V.int (sz : Int)), some (.ref lw), some (.ref lb), some (.bl dep), some (.bl rest), some vs, some (.ref lh), some (V.str ⟨#[c1, c2]⟩), some vf, some vg, d, e, none] ∧ Evl.Ex G12 G' ∧ Own K G' H' ((lh, .lst (ms.map vI ++ [V.int ((mr.getD 1 0 : Int) % 16)])) :: os))) ?hO39 ?he39 ?h039 ?hl39 ?hs39 ?hd39
        case hO39 => assumption
        case he39 => first | walk_at "ea" | walk_at "ev"
        case h039 => intro G' H' e hO'; exact ⟨_, _, rfl, e, hO'⟩
        case hl39 => intro G' m σ' H' ⟨_, _, _, _, hO'⟩; exact hO'.ex
        case hs39 =>
          intro G13 m x v σ' H' e0 hx iv ⟨_, _, hσ, e13, hO13⟩
          obtain ⟨o, ho, rfl⟩ := strD_at hx
          subst hσ
          dsimp only [gName, List.set]
          have pdo := pdue2 o
          have pko := pk2 o
          clear pdue2 pk2 pdue pk pkt
          walk_at "st"
          with_reducible refine' s_ifF ?hO35 ?ht35 ?hb35 ?_
          case hO35 => assumption
          case ht35 =>
            with_reducible refine' et_lend ?hlend
            case hlend =>
             intro G_ e_ f_
             have l_ := Is.lst (K := K) (H := upd G_ lh (.lst _)) upd_same (IsA.mono (K := K) (by walk_at "ex") ((isA_nI ms).snoc (.int ((mr.getD 1 0 : Int) % 16))))
             walk_at "et"
          case hb35 => walk_at "kb"
          intro _ _
          try (with_reducible refine' s_nx ?_)
          exact ⟨_, _, rfl, e13, ‹_›⟩
        case hd39 =>
          intro G13 σ' H' _ ⟨_, _, hσ, e13, hO13⟩
          subst hσ
          with_reducible refine' s_pop (j := 0) ?pO ?pl ?pj ?po ?_
          case pO => assumption
          case pl => rfl
          case pj => rfl
          case po => rfl
          intro H14 hO14
          exact ⟨_, _, _, _, _, rfl, e9, hO14.weak (by walk_at "ex")⟩
    case hd37 =>
      intro G' σ' H' _ ⟨_, _, _, _, _, hσ, e, hO'⟩
      subst hσ
      with_reducible refine' s_out (ms := [_]) ?k ?hO ?he ?hQ ?ev ?_
      case hO => assumption
      case k => assumption
      case he => walk_at "ex"
      case hQ => rfl
      case ev => walk_at "ev"
      rfl
end

/-! ## the head -/
section
variable {P : Program} {w : World} {K : PySem.W.Frag} {mg : Str → Option Value} {base : Heap}
theorem all_ok (B : Bi K mg) (A_law_mix : At K mg "_law_mix" s_law_mix) (A_law_draws : At K mg "_law_draws" s_law_draws) (A_law_orders : At K mg "_law_orders" s_law_orders) (A_all_orders : At K mg "all_orders" s_all_orders) (A_law_number : At K mg "_law_number" s_law_number) (A_law_same : At K mg "_law_same" s_law_same) (A_includes : At K mg "includes" s_includes) (A_law_orders_told : At K mg "_law_orders_told" s_law_orders_told) (A_law_cell : At K mg "_law_cell" s_law_cell) (A_law_event : At K mg "_law_event" s_law_event) (A_law_roles : At K mg "_law_roles" s_law_roles) (A_law_fenced : At K mg "_law_fenced" s_law_fenced) (A_law_due : At K mg "_law_due" s_law_due) (A_event_reads : At K mg "event_reads" s_event_reads) (A_event_writes : At K mg "event_writes" s_event_writes) (A_kept_by_kinds : At K mg "kept_by_kinds" s_kept_by_kinds) (A_kept_by_word : At K mg "kept_by_word" s_kept_by_word) (A_kept_by_mask : At K mg "kept_by_mask" s_kept_by_mask) (A_kept : At K mg "kept" s_kept) (A_law : At K mg "law" s_law) : Fn P w K mg base "law" 11 ["script"] (Pr K P_law) := by
  have C_law_mix : Fn P w K mg base "_law_mix" 1 ["cell", "k"] (Pr K P_law_mix) := ok_law_mix B A_law_mix
  have C_law_draws : Fn P w K mg base "_law_draws" 2 ["cell", "count", "base"] (Pr K P_law_draws) := ok_law_draws B A_law_draws C_law_mix
  have C_law_orders : Fn P w K mg base "_law_orders" 1 [] (PrO K P_law_orders) := ok_law_orders B A_law_orders
  have C_all_orders : Fn P w K mg base "all_orders" 1 [] (PrO K P_all_orders) := ok_all_orders B A_all_orders
  have C_law_number : Fn P w K mg base "_law_number" 1 ["x"] (Pr K P_law_number) := ok_law_number B A_law_number
  have C_law_same : Fn P w K mg base "_law_same" 9 ["told", "due"] (Pr K (P_law_same 8)) := ok_law_same B A_law_same C_law_number
  have C_includes : Fn P w K mg base "includes" 1 ["order", "other"] (Pr K P_includes) := ok_includes B A_includes
  have C_law_orders_told : Fn P w K mg base "_law_orders_told" 10 [] (Pr K P_law_orders_told) := ok_law_orders_told B A_law_orders_told C_law_orders C_all_orders C_law_same C_includes
  have C_law_cell : Fn P w K mg base "_law_cell" 1 ["script", "k"] (Pr K P_law_cell) := ok_law_cell B A_law_cell
  have C_law_event : Fn P w K mg base "_law_event" 1 ["kind", "word", "byte", "size"] (Pr K P_law_event) := ok_law_event B A_law_event
  have C_law_roles : Fn P w K mg base "_law_roles" 1 ["kind"] (Pr K P_law_roles) := ok_law_roles B A_law_roles
  have C_law_fenced : Fn P w K mg base "_law_fenced" 1 ["mask", "one", "two"] (Pr K P_law_fenced) := ok_law_fenced B A_law_fenced
  have C_law_due : Fn P w K mg base "_law_due" 2 ["order", "first", "second", "masks", "depends", "rest"] (Pr K P_law_due) := ok_law_due B A_law_due C_law_roles C_law_fenced
  have C_event_reads : Fn P w K mg base "event_reads" 1 ["event"] (Pr K P_event_reads) := ok_event_reads B A_event_reads
  have C_event_writes : Fn P w K mg base "event_writes" 1 ["event"] (Pr K P_event_writes) := ok_event_writes B A_event_writes
  have C_kept_by_kinds : Fn P w K mg base "kept_by_kinds" 2 ["order", "first", "second"] (Pr K P_kept_by_kinds) := ok_kept_by_kinds B A_kept_by_kinds C_event_reads C_event_writes
  have C_kept_by_word : Fn P w K mg base "kept_by_word" 1 ["first", "second"] (Pr K P_kept_by_word) := ok_kept_by_word B A_kept_by_word
  have C_kept_by_mask : Fn P w K mg base "kept_by_mask" 2 ["mask", "first", "second"] (Pr K P_kept_by_mask) := ok_kept_by_mask B A_kept_by_mask C_event_reads C_event_writes
  have C_kept : Fn P w K mg base "kept" 3 ["order", "first", "second", "masks", "depends", "rest"] (Pr K P_kept) := ok_kept B A_kept C_kept_by_kinds C_kept_by_word C_event_reads C_kept_by_mask
  have C_law : Fn P w K mg base "law" 11 ["script"] (Pr K P_law) := ok_law B A_law C_law_draws C_law_orders_told C_law_cell C_law_event C_law_orders C_law_due C_law_same C_kept
  exact C_law
end
def d_law_mix : He.DefD := ⟨("_law_mix", none), "_law_mix", "_law_mix", defArgs s_law_mix, defBody s_law_mix, defScope s_law_mix, [], []⟩
def d_law_draws : He.DefD := ⟨("_law_draws", none), "_law_draws", "_law_draws", defArgs s_law_draws, defBody s_law_draws, defScope s_law_draws, [], []⟩
def d_law_orders : He.DefD := ⟨("_law_orders", none), "_law_orders", "_law_orders", defArgs s_law_orders, defBody s_law_orders, defScope s_law_orders, [], []⟩
def d_all_orders : He.DefD := ⟨("all_orders", none), "all_orders", "all_orders", defArgs s_all_orders, defBody s_all_orders, defScope s_all_orders, [], []⟩
def d_law_number : He.DefD := ⟨("_law_number", none), "_law_number", "_law_number", defArgs s_law_number, defBody s_law_number, defScope s_law_number, [], []⟩
def d_law_same : He.DefD := ⟨("_law_same", none), "_law_same", "_law_same", defArgs s_law_same, defBody s_law_same, defScope s_law_same, [], []⟩
def d_includes : He.DefD := ⟨("includes", none), "includes", "includes", defArgs s_includes, defBody s_includes, defScope s_includes, [], []⟩
def d_law_orders_told : He.DefD := ⟨("_law_orders_told", none), "_law_orders_told", "_law_orders_told", defArgs s_law_orders_told, defBody s_law_orders_told, defScope s_law_orders_told, [], []⟩
def d_law_cell : He.DefD := ⟨("_law_cell", none), "_law_cell", "_law_cell", defArgs s_law_cell, defBody s_law_cell, defScope s_law_cell, [], []⟩
def d_law_event : He.DefD := ⟨("_law_event", none), "_law_event", "_law_event", defArgs s_law_event, defBody s_law_event, defScope s_law_event, [], []⟩
def d_law_roles : He.DefD := ⟨("_law_roles", none), "_law_roles", "_law_roles", defArgs s_law_roles, defBody s_law_roles, defScope s_law_roles, [], []⟩
def d_law_fenced : He.DefD := ⟨("_law_fenced", none), "_law_fenced", "_law_fenced", defArgs s_law_fenced, defBody s_law_fenced, defScope s_law_fenced, [], []⟩
def d_law_due : He.DefD := ⟨("_law_due", none), "_law_due", "_law_due", defArgs s_law_due, defBody s_law_due, defScope s_law_due, [], []⟩
def d_event_reads : He.DefD := ⟨("event_reads", none), "event_reads", "event_reads", defArgs s_event_reads, defBody s_event_reads, defScope s_event_reads, [], []⟩
def d_event_writes : He.DefD := ⟨("event_writes", none), "event_writes", "event_writes", defArgs s_event_writes, defBody s_event_writes, defScope s_event_writes, [], []⟩
def d_kept_by_kinds : He.DefD := ⟨("kept_by_kinds", none), "kept_by_kinds", "kept_by_kinds", defArgs s_kept_by_kinds, defBody s_kept_by_kinds, defScope s_kept_by_kinds, [], []⟩
def d_kept_by_word : He.DefD := ⟨("kept_by_word", none), "kept_by_word", "kept_by_word", defArgs s_kept_by_word, defBody s_kept_by_word, defScope s_kept_by_word, [], []⟩
def d_kept_by_mask : He.DefD := ⟨("kept_by_mask", none), "kept_by_mask", "kept_by_mask", defArgs s_kept_by_mask, defBody s_kept_by_mask, defScope s_kept_by_mask, [], []⟩
def d_kept : He.DefD := ⟨("kept", none), "kept", "kept", defArgs s_kept, defBody s_kept, defScope s_kept, [], []⟩
def d_law : He.DefD := ⟨("law", none), "law", "law", defArgs s_law, defBody s_law, defScope s_law, [], []⟩
def fn : List He.DefD := [d_law_mix, d_law_draws, d_law_orders, d_all_orders, d_law_number, d_law_same, d_includes, d_law_orders_told, d_law_cell, d_law_event, d_law_roles, d_law_fenced, d_law_due, d_event_reads, d_event_writes, d_kept_by_kinds, d_kept_by_word, d_kept_by_mask, d_kept, d_law]
def fa : List He.Fa := [.glo "_law_mix", .glo "_law_draws", .glo "_law_orders", .glo "all_orders", .glo "_law_number", .glo "_law_same", .glo "includes", .glo "_law_orders_told", .glo "_law_cell", .glo "_law_event", .glo "_law_roles", .glo "_law_fenced", .glo "_law_due", .glo "event_reads", .glo "event_writes", .glo "kept_by_kinds", .glo "kept_by_word", .glo "kept_by_mask", .glo "kept", .glo "law", .free "abs", .free "bool", .free "int", .free "isinstance", .free "len", .free "list", .free "range", .free "str", .free "tuple", .glo "STRICT", .glo "TSO", .glo "PSO", .glo "LOOSE"]
def exL (K : PySem.W.Frag) : List Bool := [He.tupB K "STRICT" (STRICT_L.map He.Dv.str), He.tupB K "TSO" (TSO_L.map He.Dv.str), He.tupB K "PSO" (PSO_L.map He.Dv.str), He.tupB K "LOOSE" (LOOSE_L.map He.Dv.str)]
def ex (K : PySem.W.Frag) : Bool := (exL K).all id
theorem ex_at {K : PySem.W.Frag} (h : ex K = true) {i : Nat} {b : Bool} (e : (exL K)[i]? = some b) : b = true := List.all_eq_true.mp h b (List.mem_of_getElem? e)
def names0 : List Str := ["STRICT", "TSO", "PSO", "LOOSE", "all_orders", "includes", "event_reads", "event_writes", "kept_by_kinds", "kept_by_word", "kept_by_mask", "kept", "_law_cell", "_law_mix", "_law_draws", "_law_number", "_law_same", "_law_orders", "_law_event", "_law_roles", "_law_fenced", "_law_due", "_law_orders_told"]
def names : List Str := names0
def STEPS : Nat := 1960
abbrev R : PySem.W.OpenRow := PySem.W.OpenLaw.row PySem.Challenge.rw_coremill_k20_kept_pairs
abbrev hk : PySem.W.Hook := hookB 4 fa fn ex
def ob (s : PySem.W.SharedT) : He.AlD × Bool := obsB 4 fa fn ex (HandSHeadRun.getT s)
theorem ob_eq (s : PySem.W.SharedT) : ob s = hk.obs s.abs := obsB_eq (HandSHeadRun.getT_eq s)
theorem run (w : World) : HandSHeadRun.RunEq R (PySem.W.view R.prog [25]) hk ob STEPS names w := by
  intro os
  kernel_rfl
theorem at_of {K : PySem.W.Frag} {h : Heap} {mg : Str → Option Value} (X : K.In h) (G : h.Ns mainGlobals mg) (c : He.SaysD fa fn K) {i j : Nat} {x : Str} {st : Stmt} (h1 : fn[i]? = some ⟨(x, none), x, x, defArgs st, defBody st, defScope st, [], []⟩) (h2 : fa[j]? = some (.glo x)) : At K mg x st := by
  obtain ⟨fd, F⟩ := c.def_ i h1
  exact ⟨_, fd, F, He.glo_ok X G (c.fact j h2)⟩
theorem facts {P : Program} {w : World} {K : PySem.W.Frag} {h : Heap} {mg : Str → Option Value} {f : Addr} (X : K.In h) (G : h.Ns mainGlobals mg) (hfa : mg ("law" : Str) = some (.ref f)) (c : He.SaysD fa fn K) (cx : ex K = true) :
    ∃ fd : FuncData, (∀ (s : Shared) (v : Value), BindsTo s fd ⟨[v], []⟩ [("script", v)]) ∧ ∀ base : Heap, K.In base → base.Ns mainGlobals mg → FnOk P w K mg base CX0 11 f fd ["script"] (Pr K P_law) := by
  have B : Bi K mg := ⟨He.free_ok X G (c.fact 20 (f := .free "abs") rfl), He.free_ok X G (c.fact 21 (f := .free "bool") rfl), He.free_ok X G (c.fact 22 (f := .free "int") rfl), He.free_ok X G (c.fact 23 (f := .free "isinstance") rfl), He.free_ok X G (c.fact 24 (f := .free "len") rfl), He.free_ok X G (c.fact 25 (f := .free "list") rfl), He.free_ok X G (c.fact 26 (f := .free "range") rfl), He.free_ok X G (c.fact 27 (f := .free "str") rfl), He.free_ok X G (c.fact 28 (f := .free "tuple") rfl), ⟨_, He.glo_ok X G (c.fact 29 (f := .glo "STRICT") rfl), fun H => by have h := He.tupB_ok (ex_at cx (i := 0) rfl) H; rw [List.map_map] at h; exact h⟩, ⟨_, He.glo_ok X G (c.fact 30 (f := .glo "TSO") rfl), fun H => by have h := He.tupB_ok (ex_at cx (i := 1) rfl) H; rw [List.map_map] at h; exact h⟩, ⟨_, He.glo_ok X G (c.fact 31 (f := .glo "PSO") rfl), fun H => by have h := He.tupB_ok (ex_at cx (i := 2) rfl) H; rw [List.map_map] at h; exact h⟩, ⟨_, He.glo_ok X G (c.fact 32 (f := .glo "LOOSE") rfl), fun H => by have h := He.tupB_ok (ex_at cx (i := 3) rfl) H; rw [List.map_map] at h; exact h⟩⟩
  obtain ⟨fd, F⟩ := c.def_ 19 (d := d_law) rfl
  have e := hfa.symm.trans (He.glo_ok X G (c.fact 19 (f := .glo "law") rfl))
  cases e
  have b := FunD.bindsA (ps := ["script"]) F fun _ _ _ _ _ _ us hl => match us, hl with | [_], _ => rfl
  refine ⟨fd, fun s v => b s [v] rfl, fun base _ _ => ?_⟩
  exact (all_ok (P := P) (w := w) (base := base) B (at_of X G c (i := 0) (j := 0) rfl rfl) (at_of X G c (i := 1) (j := 1) rfl rfl) (at_of X G c (i := 2) (j := 2) rfl rfl) (at_of X G c (i := 3) (j := 3) rfl rfl) (at_of X G c (i := 4) (j := 4) rfl rfl) (at_of X G c (i := 5) (j := 5) rfl rfl) (at_of X G c (i := 6) (j := 6) rfl rfl) (at_of X G c (i := 7) (j := 7) rfl rfl) (at_of X G c (i := 8) (j := 8) rfl rfl) (at_of X G c (i := 9) (j := 9) rfl rfl) (at_of X G c (i := 10) (j := 10) rfl rfl) (at_of X G c (i := 11) (j := 11) rfl rfl) (at_of X G c (i := 12) (j := 12) rfl rfl) (at_of X G c (i := 13) (j := 13) rfl rfl) (at_of X G c (i := 14) (j := 14) rfl rfl) (at_of X G c (i := 15) (j := 15) rfl rfl) (at_of X G c (i := 16) (j := 16) rfl rfl) (at_of X G c (i := 17) (j := 17) rfl rfl) (at_of X G c (i := 18) (j := 18) rfl rfl) (at_of X G c (i := 19) (j := 19) rfl rfl)).at_ (st := s_law) F hfa
end Rk20
open PySem PySem.W PySem.Calls PyProof.Rows
theorem PySem.Challenge.cw_coremill_k20_kept_pairs_holds : PySem.Challenge.rw_coremill_k20_kept_pairs.Holds := by
  w_on; o_law
  refine HandSHeadRun.head_any (r := OpenLaw.row PySem.Challenge.rw_coremill_k20_kept_pairs) (q := view (OpenLaw.row PySem.Challenge.rw_coremill_k20_kept_pairs).prog [25]) (H := Rk20.hk) (ob := Rk20.ob) (M := Rk20.STEPS) (loose := Rk20.names) (d := HandSHeadRun.topDef (OpenLaw.row PySem.Challenge.rw_coremill_k20_kept_pairs).prog 25) (kwd := []) Rk20.ob_eq
    (by kernel_rfl) (fun s => by kernel_rfl) Rk20.run (by kernel_rfl) (by kernel_rfl) (by kernel_rfl) (by rfl) (by first | assumption | decide +kernel) (by decide +kernel) ⟨rfl, rfl, rfl, rfl, rfl, by decide +kernel⟩ ?hw ?hc
  case hw => w_witness2
  case hc =>
    refine L2.walk_ofE (l := PySem.Challenge.rw_coremill_k20_kept_pairs) (n := 63) (k := 11) (x := "script") (CX := L2.CX0) rfl (by decide) (by kernel_rfl) ⟨rfl, by decide, by decide⟩ ?F (fun _ _ _ _ z => z)
    intro w mg fa h Y G hmg0
    obtain ⟨K, KX, c, cx⟩ := Y
    have hmg : mg ("law" : PySem.Str) = some (.ref fa) := by
      have e : (HandSHeadRun.topDef (OpenLaw.row PySem.Challenge.rw_coremill_k20_kept_pairs).prog 25).name = ("law" : PySem.Str) := by kernel_rfl
      rw [← e]
      exact hmg0
    obtain ⟨fd, hb, hF⟩ := Rk20.facts (P := (PySem.Challenge.rw_coremill_k20_kept_pairs).prog) (w := w) KX G hmg c cx
    exact ⟨K, fd, Cm.Pr K Rk20.P_law, KX, hb, fun H a ns hl _ hS => ⟨H, [], [.frl (ns.map .int)], .bl true, .start, .one (.frl hS (Cm.IsA.ints ns)), ⟨ns, rfl, hl, rfl⟩, fun v G' H' _ _ hv => hv.bl_inv⟩, hF⟩
#print axioms PySem.Challenge.cw_coremill_k20_kept_pairs_holds
